import PyProof.Rows.All
import PySem.Challenge.RW_guanaco_k56_heap_by_a_model
import HandS.ForMost
import HandS.Wide
import HandS.IsInst
import HandS.TupAny
import HandS.Flow
import HandS.HeadHook1
import PyProof.StrOps2
import PyProof.StrLawsFirst
import PyProof.Rows.StrFirst
import PyProof.StrCalls
import HandS.List
import HandS.More
import HandS.Flt
import HandS.SortInts
import HandS.WordsDict
import HandS.RaiseMore
import HandS.Dict
import HandS.DictComp
import HandS.Comp
import Wide.All
import OpenK.AllK
import Wide.FinOn
import PyProof.EqAt
import PyProof.EqKinds
import PyProof.TupleCall
import KE.KExcSuper
import KE.KSuper
import HandS.Base
import HandS.Call
import HandS.Exc
import HandS.ExcOwn
import HandS.HeadHook4
import HandS.ExcIs
import HandS.ExcField
import KE.KExcIs
import HandS.TryMany
import HandS.Iter
import KE.GoesEnum
import HandS.Zip0
import HandS.Style
import HandS.SortKw
import KE.DatumOrd
import HandS.Conv
import HandS.NoneIn
import HandS.HeadEnd
import HandS.Head2
import HandS.Defaults
section
set_option Elab.async false
set_option linter.all false
/-! Gu1: values as trees, a heap of numbered lists, a small language, what it computes. -/
namespace Gu
open PySem L2

inductive Val where
  | non | bl (b : Bool) | int (i : Int) | str (s : List Nat) | tup (xs : List Val) | fro (xs : List Val) | loc (n : Nat) | dct (ps : List Val)
  deriving Inhabited

inductive MO where
  | lst (xs : List Val) | dct (ps : List Val) | obj (c : Str) (fs : List (Str × Val))
  deriving Inhabited

abbrev MH := List MO
abbrev Rho := List (Option Val)

inductive R (α : Type) where
  | no | ok (a : α) (h : MH) | ex (c : Nat) (as : List Val) (h : MH)

@[inline] def R.bind {α β : Type} (r : R α) (f : α → MH → R β) : R β :=
  match r with
  | .no => .no
  | .ok a h => f a h
  | .ex c as h => .ex c as h
@[simp] theorem R.bind_no {α β : Type} (f : α → MH → R β) : (R.no : R α).bind f = .no := rfl
@[simp] theorem R.bind_ok {α β : Type} (a : α) (h : MH) (f : α → MH → R β) : (R.ok a h).bind f = f a h := rfl
@[simp] theorem R.bind_ex {α β : Type} (c : Nat) (as : List Val) (h : MH) (f : α → MH → R β) : (R.ex c as h : R α).bind f = .ex c as h := rfl
def R.ofO {α : Type} (o : Option α) (h : MH) : R α := match o with | some a => .ok a h | none => .no
@[simp] theorem R.ofO_some {α : Type} (a : α) (h : MH) : R.ofO (some a) h = .ok a h := rfl
@[simp] theorem R.ofO_none {α : Type} (h : MH) : R.ofO (none : Option α) h = .no := rfl

/-- built-in functions -/
inductive BI where
  | len | int | str | list | tuple | sum | max | min | abs | any | all | sorted | dict | ord
  deriving DecidableEq
/-- classes to ask isinstance of -/
inductive TK where
  | int | bool | str | list | tuple
  deriving DecidableEq
/-- methods of built-in types -/
inductive MI where
  | append | pop | join | split | extend | upper | index | lidx
  deriving DecidableEq

/-- a target that binds names -/
inductive NT where
  | nm (i : Nat) | tp (is : List Nat)

inductive E where
  | nil | cons (e es : E)
  | var (i : Nat) | cst (v : Val) | glb (x : Str) (v : Val)
  | bin (o : Operator) (a b : E) | neg (a : E) | cmp (o : CmpOp) (a b : E)
  | and_ (a b : E) | or_ (a b : E) | not_ (a : E) | ite (c a b : E)
  | tup (es : E) | lst (es : E) | mxd (a d : E)
  | idx (a b : E) | slc (a lo hi : E) | rev (a : E)
  | call (f : Nat) (es : E) | blt (b : BI) (es : E) | isi (t : TK) (a : E) | mth (m : MI) (o es : E)
  | rng1 (a : E) | rng2 (a b : E)
  | lc (own : List Nat) (t : NT) (it cond elt : E)
  | dnew | dget (a k : E) | din (ng : Bool) (k a : E) | dgt (a k x : E) | deq (ng : Bool) (a b : E) | dc (own : List Nat) (t : NT) (it cond k v : E) | enm (a : E)
  | lcn (own : List Nat) (t : NT) (it cond rest : E) | cl (own : List Nat) (t : NT) (it cond rest : E) | el (e : E)
  | lrg (a b : E) | d1 (k v : E) | chn (o p : CmpOp) (a b c : E)
  | fld (a : E) (f : Str) | mcl (k : Nat) (c m : Str) (o es : E) | new (k : Nat) (c : Str) (es : E)
  | stp (a s : E)

inductive T where
  | nt (t : NT) | sub (o i : E) | sn (o i : E) (j : Nat)

/-- an except suite: it looks at the exception (its class, its field), returns or does nothing -/
inductive EhL where
  | cst (v : Val) | fld
inductive EhT where
  | isi (cs : List Nat) | feq (i : Int) | not_ (a : EhT) | and_ (a b : EhT) | or_ (a b : EhT)
inductive EhV where
  | leaf (l : EhL) | tup (ls : List EhL) | lst (ls : List EhL)
inductive EhS where
  | nil | ite (c : EhT) (a r : EhS) | ret (v : EhV)

inductive S where
  | raise (c : Nat) (es : E) | try_ (b : S) (hs : List (List Nat × Nat × EhS))
  | skip | seq (a b : S) | asg (t : T) (e : E) | aug (i : Nat) (o : Operator) (e : E) | expr (e : E)
  | ret (e : E) | retn | ite (c : E) (a b : S) | whl (c : E) (b : S) | for_ (t : NT) (it : E) (b : S)
  | dput (d k : E) (e : E) | dcp (t d g : Nat)
  | fset (c : Str) (o : E) (f : Str) (e : E) | faug (c : Str) (o : E) (f : Str) (op : Operator) (e : E)
  | ddel (d k : E)
  | forU (is : List Nat) (it : E) (b : S)
  | brk | cnt | never

/-! ### by values -/
mutual
def Val.eqb : Val → Val → Bool
  | .non, .non => true
  | .bl a, .bl b => a == b
  | .int a, .int b => a == b
  | .bl a, .int b => (if a then 1 else 0) == b
  | .int a, .bl b => a == (if b then 1 else 0)
  | .str a, .str b => a == b
  | .tup a, .tup b => Val.eqbs a b
  | _, _ => false
def Val.eqbs : List Val → List Val → Bool
  | [], [] => true
  | a :: r, b :: s => Val.eqb a b && Val.eqbs r s
  | _, _ => false
end
mutual
def Val.depth : Val → Nat
  | .tup xs => Val.depths xs + 1
  | _ => 0
def Val.depths : List Val → Nat
  | [] => 0
  | x :: r => max (Val.depth x) (Val.depths r)
end
mutual
/-- no place in it -/
def Val.flat : Val → Bool
  | .loc _ => false
  | .fro _ => false
  | .dct _ => false
  | .tup xs => Val.flats xs
  | _ => true
def Val.flats : List Val → Bool
  | [] => true
  | x :: r => Val.flat x && Val.flats r
end
/-- None, a bool, an int, a text -/
def Val.atom : Val → Bool
  | .loc _ => false
  | .fro _ => false
  | .tup _ => false
  | .dct _ => false
  | _ => true
def seqL (h : MH) (n : Nat) : Option (List Val) :=
  match h[n]? with
  | some (.lst xs) => some xs
  | _ => none
def cutL {α : Type} (xs : List α) (lo hi : Option Int) : List α := (xs.drop (HT.sIx xs.length 0 lo)).take (HT.sIx xs.length xs.length hi - HT.sIx xs.length 0 lo)
def truV (h : MH) : Val → Option Bool
  | .non => some false
  | .bl b => some b
  | .int i => some (i != 0)
  | .str s => some (!s.isEmpty)
  | .tup xs => some (!xs.isEmpty)
  | .fro xs => some (!xs.isEmpty)
  | .loc n => (seqL h n).map fun xs => !xs.isEmpty
  | .dct _ => none
/-- an equality that is served: data without places, or two lists of such -/
def eqV? (h : MH) (x y : Val) : Option Bool :=
  match x, y with
  | .loc n, .loc m => match seqL h n, seqL h m with
    | some xs, some ys => if Val.flats xs && Val.flats ys && decide (Val.depths xs ≤ 150) && decide (Val.depths ys ≤ 150) then some (Val.eqbs xs ys) else none
    | _, _ => none
  | .loc n, y => match seqL h n with
    | some xs => if Val.flats xs && Val.flat y && decide (Val.depths xs ≤ 150) && decide (Val.depth y ≤ 150) then some false else none
    | none => none
  | x, .loc m => match seqL h m with
    | some ys => if Val.flat x && Val.flats ys && decide (Val.depth x ≤ 150) && decide (Val.depths ys ≤ 150) then some false else none
    | none => none
  | x, y => if Val.flat x && Val.flat y && decide (Val.depth x ≤ 150) && decide (Val.depth y ≤ 150) then some (Val.eqb x y) else none
def deepOk (x : Val) (ys : List Val) : Bool := Val.flat x && Val.flats ys && decide (Val.depth x ≤ 150) && decide (Val.depths ys ≤ 150)
def inV? (h : MH) (x y : Val) : Option Bool :=
  match y with
  | .tup ys => if x.atom && ys.all Val.atom then some (ys.any fun z => Val.eqb z x) else if deepOk x ys then some (ys.any fun z => Val.eqb z x) else none
  | .loc n => match seqL h n with
    | some ys => if x.atom && ys.all Val.atom then some (ys.any fun z => Val.eqb z x) else if deepOk x ys then some (ys.any fun z => Val.eqb z x) else none
    | none => none
  | .str s => match x with
    | .str [c] => some (s.contains c)
    | _ => none
  | _ => none
def Val.isNon : Val → Bool | .non => true | _ => false
def cmpV (o : CmpOp) (h : MH) (x y : Val) : Option Val :=
  match o with
  | .Eq => (eqV? h x y).map .bl
  | .NotEq => (eqV? h x y).map fun b => .bl (!b)
  | .Lt => match x, y with | .int i, .int j => some (.bl (decide (i < j))) | _, _ => none
  | .LtE => match x, y with | .int i, .int j => some (.bl (decide (i ≤ j))) | _, _ => none
  | .Gt => match x, y with | .int i, .int j => some (.bl (decide (j < i))) | _, _ => none
  | .GtE => match x, y with | .int i, .int j => some (.bl (decide (j ≤ i))) | _, _ => none
  | .Is => match y with | .non => some (.bl x.isNon) | _ => none
  | .IsNot => match y with | .non => some (.bl (!x.isNon)) | _ => none
  | .In => (inV? h x y).map .bl
  | .NotIn => (inV? h x y).map fun b => .bl (!b)
def binV (o : Operator) (x y : Val) (h : MH) : R Val :=
  match o, x, y with
  | .Add, .int i, .int j => .ok (.int (i + j)) h
  | .Sub, .int i, .int j => .ok (.int (i - j)) h
  | .Mult, .int i, .int j => if i.natAbs.log2 + j.natAbs.log2 < 1000000 then .ok (.int (i * j)) h else .no
  | .FloorDiv, .int i, .int j => if 0 < j ∧ j.natAbs.log2 < 9000 then .ok (.int (i / j)) h else .no
  | .Mod, .int i, .int j => if 0 < j then .ok (.int (i % j)) h else .no
  | .Pow, .int i, .int j => if 0 ≤ j ∧ j ≤ 1000 ∧ i.natAbs < 2 ^ 64 then .ok (.int (i ^ j.toNat)) h else .no
  | .Mult, .str a, .int n => if 0 ≤ n ∧ n ≤ 100000 ∧ a.length * n.toNat ≤ 100000 then .ok (.str (List.replicate n.toNat a).flatten) h else .no
  | .Add, .str a, .str b => if a.length + b.length ≤ sizeLine then .ok (.str (a ++ b)) h else .no
  | .Add, .tup a, .tup b => if a.length + b.length ≤ sizeLine then .ok (.tup (a ++ b)) h else .no
  | .Add, .loc n, .loc m => match h[n]?, h[m]? with
    | some (.lst a), some (.lst b) => if a.length + b.length ≤ sizeLine then .ok (.loc h.length) (h ++ [.lst (a ++ b)]) else .no
    | _, _ => .no
  | _, _, _ => .no
def idxV (h : MH) (x y : Val) : Option Val :=
  match x, y with
  | .tup xs, .int i => atI xs i
  | .fro xs, .int i => atI xs i
  | .loc n, .int i => (seqL h n).bind fun xs => atI xs i
  | .str s, .int i => (atI s i).map fun c => .str [c]
  | _, _ => none
def slcV (h : MH) (x : Val) (lo hi : Option Int) : R Val :=
  match x with
  | .tup xs => .ok (.tup (cutL xs lo hi)) h
  | .fro xs => .ok (.loc h.length) (h ++ [.lst (cutL xs lo hi)])
  | .loc n => match seqL h n with
    | some xs => .ok (.loc h.length) (h ++ [.lst (cutL xs lo hi)])
    | none => .no
  | .str s => .ok (.str (cutL s lo hi)) h
  | _ => .no
def revV (x : Val) (h : MH) : R Val :=
  match x with
  | .tup xs => .ok (.tup xs.reverse) h
  | .fro xs => .ok (.loc h.length) (h ++ [.lst xs.reverse])
  | .loc n => match seqL h n with
    | some xs => .ok (.loc h.length) (h ++ [.lst xs.reverse])
    | none => .no
  | _ => .no
/-- x[::step] of a list, the step 1 or -1 -/
def stpV (x y : Val) (h : MH) : R Val :=
  match x, y with
  | .loc n, .int k => match seqL h n with
    | some xs => if k = 1 then .ok (.loc h.length) (h ++ [.lst xs]) else if k = -1 then .ok (.loc h.length) (h ++ [.lst xs.reverse]) else .no
    | none => .no
  | _, _ => .no
def strInt (i : Int) : List Nat := (toString i).toList.map Char.toNat
def ints? : List Val → Option (List Int)
  | [] => some []
  | .int i :: r => (ints? r).map (i :: ·)
  | _ :: _ => none
def bls? : List Val → Option (List Bool)
  | [] => some []
  | .bl i :: r => (bls? r).map (i :: ·)
  | _ :: _ => none
def max2 (i j : Int) : Int := if j > i then j else i
def min2 (i j : Int) : Int := if j < i then j else i
def maxL (i : Int) : List Int → Int
  | [] => i
  | j :: r => maxL (max2 i j) r
def minL (i : Int) : List Int → Int
  | [] => i
  | j :: r => minL (min2 i j) r
def insI (x : Int) : List Int → List Int
  | [] => [x]
  | y :: r => if x ≤ y then x :: y :: r else y :: insI x r
def sortI : List Int → List Int
  | [] => []
  | x :: r => insI x (sortI r)
/-- the keys of a dict of ints -/
def dkeysI : List Val → Option (List Int)
  | [] => some []
  | .tup [.int i, _] :: r => (dkeysI r).map (i :: ·)
  | _ :: _ => none
def biV (b : BI) (vs : List Val) (h : MH) : R Val :=
  match b, vs with
  | .len, [.str s] => .ok (.int s.length) h
  | .len, [.tup xs] => .ok (.int xs.length) h
  | .len, [.fro xs] => .ok (.int xs.length) h
  | .len, [.loc n] => match h[n]? with | some (.lst xs) => .ok (.int xs.length) h | some (.dct ps) => .ok (.int ps.length) h | _ => .no
  | .int, [.int i] => .ok (.int i) h
  | .str, [.int i] => if i.natAbs.log2 < 1920 ∧ (strInt i).length ≤ sizeLine then .ok (.str (strInt i)) h else .no
  | .int, [.bl b] => .ok (.int (if b then 1 else 0)) h
  | .list, [.loc n] => match seqL h n with | some xs => .ok (.loc h.length) (h ++ [.lst xs]) | none => .no
  | .list, [.tup xs] => .ok (.loc h.length) (h ++ [.lst xs])
  | .list, [.fro xs] => .ok (.loc h.length) (h ++ [.lst xs])
  | .tuple, [.loc n] => match seqL h n with | some xs => .ok (.tup xs) h | none => .no
  | .tuple, [.tup xs] => .ok (.tup xs) h
  | .sum, [.loc n] => match (seqL h n).bind ints? with | some ns => .ok (.int ns.sum) h | none => .no
  | .max, [.int i, .int j] => .ok (.int (max2 i j)) h
  | .max, [.int i, .int j, .int k] => .ok (.int (max2 (max2 i j) k)) h
  | .max, [.loc n] => match (seqL h n).bind ints? with | some (i :: r) => .ok (.int (maxL i r)) h | _ => .no
  | .min, [.int i, .int j] => .ok (.int (min2 i j)) h
  | .min, [.int i, .int j, .int k] => .ok (.int (min2 (min2 i j) k)) h
  | .min, [.loc n] => match (seqL h n).bind ints? with | some (i :: r) => .ok (.int (minL i r)) h | _ => .no
  | .abs, [.int i] => .ok (.int (if i < 0 then -i else i)) h
  | .any, [.loc n] => match (seqL h n).bind bls? with | some bs => .ok (.bl (bs.any id)) h | none => .no
  | .all, [.loc n] => match (seqL h n).bind bls? with | some bs => .ok (.bl (bs.all id)) h | none => .no
  | .sorted, [.loc n] => match h[n]? with
    | some (.lst xs) => match ints? xs with
      | some ns => .ok (.loc h.length) (h ++ [.lst ((sortI ns).map .int)])
      | none => .no
    | some (.dct ps) => match dkeysI ps with
      | some ns => if ns.length < 64 then .ok (.loc h.length) (h ++ [.lst ((sortI ns).map .int)]) else .no
      | none => .no
    | _ => .no
  | .dict, [.loc n] => match h[n]? with | some (.dct ps) => .ok (.loc h.length) (h ++ [.dct ps]) | _ => .no
  | .ord, [.str [c]] => .ok (.int c) h
  | .str, [.str s] => .ok (.str s) h
  | _, _ => .no
def topL (d : Int) : List Int → Int
  | [] => d
  | i :: r => r.foldl (fun a y => if a < y then y else a) i
def mxdV (x y : Val) (h : MH) : R Val :=
  match x, y with
  | .loc n, .int d => match (seqL h n).bind ints? with | some ns => .ok (.int (topL d ns)) h | none => .no
  | _, _ => .no
def isiV (t : TK) (h : MH) (x : Val) : Option Bool :=
  match x with
  | .int _ => some (decide (t = .int))
  | .bl _ => some (decide (t = .int) || decide (t = .bool))
  | .str _ => some (decide (t = .str))
  | .tup _ => some (decide (t = .tuple))
  | .fro _ => some (decide (t = .list))
  | .loc n => match h[n]? with | some (.lst _) => some (decide (t = .list)) | _ => none
  | .non => some false
  | .dct _ => none
def strs? : List Val → Option (List (List Nat))
  | [] => some []
  | .str s :: r => (strs? r).map (s :: ·)
  | _ :: _ => none
def joinS (sep : List Nat) : List (List Nat) → List Nat
  | [] => []
  | [x] => x
  | x :: y :: r => x ++ sep ++ joinS sep (y :: r)
/-- split by a text of one sign -/
def splitC (c : Nat) : List Nat → List Nat → List (List Nat)
  | acc, [] => [acc]
  | acc, d :: r => if d = c then acc :: splitC c [] r else splitC c (acc ++ [d]) r
def mtV (m : MI) (o : Val) (vs : List Val) (h : MH) : R Val :=
  match m, o, vs with
  | .append, .loc n, [v] => match h[n]? with
    | some (.lst xs) => if xs.length < sizeLine then .ok .non (h.set n (.lst (xs ++ [v]))) else .no
    | _ => .no
  | .pop, .loc n, [] => match h[n]? with
    | some (.lst xs) => match xs.getLast? with | some v => .ok v (h.set n (.lst xs.dropLast)) | none => .no
    | _ => .no
  | .extend, .loc n, [.loc m] => match h[n]?, h[m]? with
    | some (.lst xs), some (.lst ys) => if xs.length + ys.length ≤ sizeLine then .ok .non (h.set n (.lst (xs ++ ys))) else .no
    | _, _ => .no
  | .extend, .loc n, [.tup ys] => match h[n]? with
    | some (.lst xs) => if xs.length + ys.length ≤ sizeLine then .ok .non (h.set n (.lst (xs ++ ys))) else .no
    | _ => .no
  | .join, .str s, [.loc n] => match seqL h n with
    | some xs => match strs? xs with
      | some ys => if (ys.map (·.length)).sum + ys.length * s.length ≤ 16777216 then .ok (.str (joinS s ys)) h else .no
      | none => .no
    | none => .no
  | .split, .str s, [.str [c]] => if s.length + 2 ≤ sizeLine ∧ c < 256 then .ok (.loc h.length) (h ++ [.lst ((splitC c [] s).map .str)]) else .no
  | .upper, .str [c], [] => if 97 ≤ c ∧ c ≤ 122 then .ok (.str [c - 32]) h else .no
  | .index, .str s, [.str [c]] => if c ∈ s then .ok (.int (s.idxOf c : Nat)) h else .no
  | .lidx, .loc n, [.int i] => match (seqL h n).bind ints? with
    | some ns => if i ∈ ns then .ok (.int (ns.idxOf i : Nat)) h else .no
    | none => .no
  | .join, .str s, [.tup xs] => match strs? xs with
    | some ys => if (ys.map (·.length)).sum + ys.length * s.length ≤ 16777216 then .ok (.str (joinS s ys)) h else .no
    | none => .no
  | _, _, _ => .no
/-- the receiver is of the method's type -/
def mtT (m : MI) (h : MH) (o : Val) : Bool :=
  match m, o with
  | .append, .loc n => (seqL h n).isSome
  | .pop, .loc n => (seqL h n).isSome
  | .extend, .loc n => (seqL h n).isSome
  | .join, .str _ => true
  | .split, .str _ => true
  | .upper, .str _ => true
  | .index, .str _ => true
  | .lidx, .loc n => (seqL h n).isSome
  | _, _ => false
def setV (o i v : Val) (h : MH) : R Unit :=
  match o, i with
  | .loc n, .int k => match h[n]? with
    | some (.lst xs) => match ixN xs.length k with | some j => .ok () (h.set n (.lst (xs.set j v))) | none => .no
    | _ => .no
  | _, _ => .no

/-! ### dicts: lists of pairs of a key (an int, a text) and a value -/
def Val.key : Val → Bool
  | .int _ => true
  | .str _ => true
  | _ => false
def keyEq : Val → Val → Bool
  | .int i, .int j => decide (i = j)
  | .str s, .str t => decide (s = t)
  | _, _ => false
def dGet : List Val → Val → Option Val
  | .tup [k, v] :: r, y => if keyEq k y then some v else dGet r y
  | _, _ => none
def dRep (y w : Val) : Val → Val
  | .tup [k, v] => if keyEq k y then .tup [k, w] else .tup [k, v]
  | p => p
def dPut (ps : List Val) (y w : Val) : List Val := if (dGet ps y).isSome then ps.map (dRep y w) else ps ++ [.tup [y, w]]
def dctL (h : MH) : Val → Option (Nat × List Val)
  | .loc n => match h[n]? with
    | some (.dct ps) => some (n, ps)
    | _ => none
  | _ => none
def dgetV (h : MH) (x y : Val) : Option Val := match dctL h x with
  | some (_, ps) => if y.key then dGet ps y else none
  | none => none
def dinV (ng : Bool) (h : MH) (y x : Val) : Option Val := match dctL h x with
  | some (_, ps) => if y.key then some (.bl (xor ng (dGet ps y).isSome)) else none
  | none => none
def dgtV (h : MH) (x y z : Val) : Option Val := match dctL h x with
  | some (_, ps) => if y.key then some ((dGet ps y).getD z) else none
  | none => none
/-- == of two dicts' pairs, where it is served -/
def dEqs : List Val → List Val → Option Bool
  | .tup [k, v] :: r, ls => match dGet ls k with
    | none => some false
    | some w => if Val.flat v && Val.flat w && decide (Val.depth v ≤ 150) && decide (Val.depth w ≤ 150) then (dEqs r ls).map (Val.eqb v w && ·) else none
  | [], _ => some true
  | _, _ => none
def deqV (ng : Bool) (h : MH) (x y : Val) : Option Val := match dctL h x, dctL h y with
  | some (_, ps), some (_, ls) => if ps.length = ls.length then (dEqs ps ls).map fun b => .bl (xor ng b) else some (.bl (xor ng false))
  | _, _ => none
def dputV (o i v : Val) (h : MH) : R Unit := match dctL h o with
  | some (n, ps) => if i.key && decide (ps.length < sizeLine) then .ok () (h.set n (.dct (dPut ps i v))) else .no
  | none => .no
def delP (y : Val) : Val → Bool
  | .tup [k, _] => !keyEq k y
  | _ => true
def dDel (ps : List Val) (y : Val) : List Val := ps.filter (delP y)
def ddelV (o i : Val) (h : MH) : R Unit := match dctL h o with
  | some (n, ps) => if i.key && (dGet ps i).isSome then .ok () (h.set n (.dct (dDel ps i))) else .no
  | none => .no
/-- list(range(i, j)) -/
def rgL (i : Int) (n : Nat) : List Val := (List.range n).map fun k : Nat => .int (i + (k : Nat))
def lrgV (x y : Val) (h : MH) : R Val := match x, y with
  | .int i, .int j => if i.natAbs < 1000000 ∧ j.natAbs < 1000000 then .ok (.loc h.length) (h ++ [.lst (rgL i (j - i).toNat)]) else .no
  | _, _ => .no
def d1V (n : Nat) (k v : Val) (h : MH) : R Val := match h[n]? with
  | some (.dct []) => if k.key then .ok (.loc n) (h.set n (.dct [.tup [k, v]])) else .no
  | _ => .no
/-- d's pairs are put into another dict, one after the other -/
def dCopy (ps : List Val) : List Val → List Val → Option (List Val)
  | [], gs => some gs
  | .tup [k, _] :: r, gs => match dGet ps k with
    | some v => if decide (gs.length < sizeLine) then dCopy ps r (dPut gs k v) else none
    | none => none
  | _, _ => none
def setLast (t : Nat) (ps : List Val) (ρ : Rho) : Rho := match ps.getLast? with | some (.tup [k, _]) => ρ.set t (some k) | _ => ρ

/-! ### expressions -/
abbrev CallT := Nat → List Val → MH → R Val
/-- what is walked: values; a list as it stands; a range; a list with its places -/
inductive Items where
  | vals (xs : List Val) | live (n len : Nat) | rng (lo : Int) (n : Nat) | enm (n len : Nat) | enmT (xs : List Val)
def Items.len : Items → Nat
  | .vals xs => xs.length
  | .live _ k => k
  | .rng _ k => k
  | .enm _ k => k
  | .enmT xs => xs.length
def Items.get (h : MH) (i : Nat) : Items → Option Val
  | .vals xs => xs[i]?
  | .live n k => match seqL h n with | some xs => if xs.length = k then xs[i]? else none | none => none
  | .rng lo _ => some (.int (lo + i))
  | .enm n k => match seqL h n with | some xs => if xs.length = k then (xs[i]?).map fun x => .tup [.int i, x] else none | none => none
  | .enmT xs => (xs[i]?).map fun x => .tup [.int i, x]
def Items.fin (h : MH) : Items → Bool
  | .vals _ => true
  | .live n k => match seqL h n with | some xs => decide (xs.length = k) | none => false
  | .rng _ _ => true
  | .enm n k => match seqL h n with | some xs => decide (xs.length = k) | none => false
  | .enmT _ => true
structure Den where
  v : Rho → MH → R Val
  a : Rho → MH → R (List Val)
  t : Rho → MH → R Bool
  i : Rho → MH → R Items
  o : Rho → MH → R (Option Int)
  c : Nat → Rho → MH → R Unit
def itemsV (h : MH) (x : Val) : Option Items :=
  match x with
  | .tup xs => some (.vals xs)
  | .fro xs => some (.vals xs)
  | .loc n => (seqL h n).map fun xs => .live n xs.length
  | .str s => some (.vals (s.map fun c => .str [c]))
  | _ => none
@[inline] def Den.ofV (f : Rho → MH → R Val) : Den where
  v := f
  a := fun _ _ => .no
  t := fun ρ h => (f ρ h).bind fun x h1 => R.ofO (truV h1 x) h1
  i := fun ρ h => (f ρ h).bind fun x h1 => R.ofO (itemsV h1 x) h1
  o := fun ρ h => (f ρ h).bind fun x h1 => match x with | .int k => .ok (some k) h1 | _ => .no
  c := fun _ _ _ => .no
def Den.none : Den := ⟨fun _ _ => .no, fun _ _ => .no, fun _ _ => .no, fun _ _ => .no, fun _ _ => .no, fun _ _ _ => .no⟩
def wipeR (ρ : Rho) : List Nat → Rho
  | [] => ρ
  | v :: vs => (wipeR ρ vs).set v Option.none
def setNs : List Nat → List Val → Rho → Option Rho
  | [], [], ρ => some ρ
  | i :: is, v :: vs, ρ => setNs is vs (ρ.set i (some v))
  | _, _, _ => Option.none
def setN (t : NT) (v : Val) (ρ : Rho) : Option Rho :=
  match t with
  | .nm i => some (ρ.set i (some v))
  | .tp is => match v with
    | .tup vs => setNs is vs ρ
    | _ => Option.none
/-- a comprehension's turns: m are left, the list that grows stands at D -/
def lcLoop (D : Nat) (t : NT) (ρ : Rho) (cnd : Rho → MH → R Bool) (elt : Rho → MH → R Val) (it : Items) : Nat → Nat → MH → R Val
  | 0, _, h => if it.fin h then .ok (.loc D) h else .no
  | m + 1, i, h =>
    match it.get h i with
    | some x => match setN t x ρ with
      | some ρ' => match cnd ρ' h with
        | .ok true h0 => match elt ρ' h0 with
          | .ok y h1 => match h1[D]? with
            | some (.lst acc) => if acc.length < sizeLine then lcLoop D t ρ cnd elt it m (i + 1) (h1.set D (.lst (acc ++ [y]))) else .no
            | _ => .no
          | _ => .no
        | .ok false h0 => lcLoop D t ρ cnd elt it m (i + 1) h0
        | _ => .no
      | Option.none => .no
    | Option.none => .no

/-- the turns of a for within a comprehension -/
def clLoop (t : NT) (ρ : Rho) (cnd : Rho → MH → R Bool) (body : Rho → MH → R Unit) (it : Items) : Nat → Nat → MH → R Unit
  | 0, _, h => if it.fin h then .ok () h else .no
  | m + 1, i, h =>
    match it.get h i with
    | some x => match setN t x ρ with
      | some ρ' => match cnd ρ' h with
        | .ok true h0 => match body ρ' h0 with
          | .ok _ h1 => clLoop t ρ cnd body it m (i + 1) h1
          | _ => .no
        | .ok false h0 => clLoop t ρ cnd body it m (i + 1) h0
        | _ => .no
      | Option.none => .no
    | Option.none => .no
def addL (n : Nat) (y : Val) (h : MH) : R Unit :=
  match h[n]? with
  | some (.lst acc) => if acc.length < sizeLine then .ok () (h.set n (.lst (acc ++ [y]))) else .no
  | _ => .no
/-- a dict comprehension's turns -/
def dcLoop (D : Nat) (t : NT) (ρ : Rho) (cnd : Rho → MH → R Bool) (kx vx : Rho → MH → R Val) (it : Items) : Nat → Nat → MH → R Val
  | 0, _, h => if it.fin h then .ok (.loc D) h else .no
  | m + 1, i, h =>
    match it.get h i with
    | some x => match setN t x ρ with
      | some ρ' => match cnd ρ' h with
        | .ok true h0 => match kx ρ' h0 with
          | .ok k h1 => match vx ρ' h1 with
            | .ok v h2 => match dputV (.loc D) k v h2 with
              | .ok _ h3 => dcLoop D t ρ cnd kx vx it m (i + 1) h3
              | _ => .no
            | _ => .no
          | _ => .no
        | .ok false h0 => dcLoop D t ρ cnd kx vx it m (i + 1) h0
        | _ => .no
      | Option.none => .no
    | Option.none => .no
def enmOf (h : MH) (x : Val) : Option Items :=
  match x with
  | .tup xs => some (.enmT xs)
  | .loc n => (seqL h n).map fun xs => .enm n xs.length
  | _ => none
/-! objects of own classes -/
def fldV (h : MH) (x : Val) (f : Str) : Option Val :=
  match x with
  | .loc n => match h[n]? with
    | some (.obj _ fs) => fs.lookup f
    | _ => none
  | _ => none
def fldC (h : MH) (x : Val) (c f : Str) : Option Val :=
  match x with
  | .loc n => match h[n]? with
    | some (.obj c' fs) => if c' = c then fs.lookup f else none
    | _ => none
  | _ => none
def isObj (h : MH) (x : Val) (c m : Str) : Bool :=
  match x with
  | .loc n => match h[n]? with
    | some (.obj c' fs) => decide (c' = c) && (fs.lookup m).isNone
    | _ => false
  | _ => false
def putA (f : Str) (v : Val) : List (Str × Val) → List (Str × Val)
  | [] => [(f, v)]
  | (g, x) :: r => if g = f then (g, v) :: r else (g, x) :: putA f v r
def fsetV (c f : Str) (x v : Val) (h : MH) : R Unit :=
  match x with
  | .loc n => match h[n]? with
    | some (.obj c' fs) => if c' = c ∧ fs.length < 1000 then .ok () (h.set n (.obj c' (putA f v fs))) else .no
    | _ => .no
  | _ => .no
def ev (call : CallT) : E → Den
  | .nil => { Den.none with a := fun _ h => .ok [] h, o := fun _ h => .ok Option.none h, t := fun _ h => .ok true h }
  | .cons e es => { Den.none with t := (ev call e).t, a := fun ρ h => ((ev call e).v ρ h).bind fun x h1 => ((ev call es).a ρ h1).bind fun xs h2 => .ok (x :: xs) h2 }
  | .var i => .ofV fun ρ h => R.ofO (ρ[i]?).join h
  | .cst v => .ofV fun _ h => .ok v h
  | .glb _ v => .ofV fun _ h => .ok v h
  | .bin o a b => .ofV fun ρ h => ((ev call a).v ρ h).bind fun x h1 => ((ev call b).v ρ h1).bind fun y h2 => binV o x y h2
  | .neg a => .ofV fun ρ h => ((ev call a).v ρ h).bind fun x h1 => match x with | .int i => .ok (.int (-i)) h1 | _ => .no
  | .cmp o a b => { (Den.ofV fun ρ h => ((ev call a).v ρ h).bind fun x h1 => ((ev call b).v ρ h1).bind fun y h2 => R.ofO (cmpV o h2 x y) h2) with
      t := fun ρ h => (((ev call a).v ρ h).bind fun x h1 => ((ev call b).v ρ h1).bind fun y h2 => R.ofO (cmpV o h2 x y) h2).bind fun x h1 => match x with | .bl k => .ok k h1 | _ => .no }
  | .and_ a b => { (Den.ofV fun ρ h => ((ev call a).v ρ h).bind fun x h1 => (R.ofO (truV h1 x) h1).bind fun k h2 => if k then (ev call b).v ρ h2 else .ok x h2) with
      t := fun ρ h => ((ev call a).t ρ h).bind fun x h1 => if x then (ev call b).t ρ h1 else .ok false h1 }
  | .or_ a b => { (Den.ofV fun ρ h => ((ev call a).v ρ h).bind fun x h1 => (R.ofO (truV h1 x) h1).bind fun k h2 => if k then .ok x h2 else (ev call b).v ρ h2) with
      t := fun ρ h => ((ev call a).t ρ h).bind fun x h1 => if x then .ok true h1 else (ev call b).t ρ h1 }
  | .not_ a => { (Den.ofV fun ρ h => ((ev call a).v ρ h).bind fun x h1 => (R.ofO (truV h1 x) h1).bind fun k h2 => .ok (.bl (!k)) h2) with
      t := fun ρ h => ((ev call a).t ρ h).bind fun x h1 => .ok (!x) h1 }
  | .ite c a b => { (Den.ofV fun ρ h => ((ev call c).t ρ h).bind fun x h1 => if x then (ev call a).v ρ h1 else (ev call b).v ρ h1) with
      t := fun ρ h => ((ev call c).t ρ h).bind fun x h1 => if x then (ev call a).t ρ h1 else (ev call b).t ρ h1 }
  | .tup es => .ofV fun ρ h => ((ev call es).a ρ h).bind fun xs h1 => if xs.length ≤ sizeLine then .ok (.tup xs) h1 else .no
  | .lst es => .ofV fun ρ h => ((ev call es).a ρ h).bind fun xs h1 => if xs.length ≤ sizeLine then .ok (.loc h1.length) (h1 ++ [.lst xs]) else .no
  | .idx a b => .ofV fun ρ h => ((ev call a).v ρ h).bind fun x h1 => ((ev call b).v ρ h1).bind fun y h2 => R.ofO (idxV h2 x y) h2
  | .slc a lo hi => .ofV fun ρ h => ((ev call a).v ρ h).bind fun x h1 => ((ev call lo).o ρ h1).bind fun l h2 => ((ev call hi).o ρ h2).bind fun u h3 => slcV h3 x l u
  | .mxd a d => .ofV fun ρ h => ((ev call a).v ρ h).bind fun x h1 => ((ev call d).v ρ h1).bind fun y h2 => mxdV x y h2
  | .rev a => .ofV fun ρ h => ((ev call a).v ρ h).bind fun x h1 => revV x h1
  | .stp a s => .ofV fun ρ h => ((ev call a).v ρ h).bind fun x h1 => ((ev call s).v ρ h1).bind fun y h2 => stpV x y h2
  | .call f es => .ofV fun ρ h => ((ev call es).a ρ h).bind fun xs h1 => call f xs h1
  | .blt b es => .ofV fun ρ h => ((ev call es).a ρ h).bind fun xs h1 => biV b xs h1
  | .isi t a => .ofV fun ρ h => ((ev call a).v ρ h).bind fun x h1 => R.ofO ((isiV t h1 x).map .bl) h1
  | .mth m o es => .ofV fun ρ h => ((ev call o).v ρ h).bind fun x h1 => if mtT m h1 x then ((ev call es).a ρ h1).bind fun xs h2 => mtV m x xs h2 else .no
  | .rng1 a => { Den.none with i := fun ρ h => ((ev call a).v ρ h).bind fun x h1 => match x with | .int k => if k.natAbs < 4611686018427387904 then .ok (.rng 0 k.toNat) h1 else .no | _ => .no }
  | .rng2 a b => { Den.none with i := fun ρ h => ((ev call a).v ρ h).bind fun x h1 => ((ev call b).v ρ h1).bind fun y h2 => match x, y with
      | .int j, .int k => if j.natAbs < 4611686018427387904 ∧ k.natAbs < 4611686018427387904 then .ok (.rng j (k - j).toNat) h2 else .no
      | _, _ => .no }
  | .lc own t it cond elt => .ofV fun ρ h => ((ev call it).i ρ h).bind fun its h1 => lcLoop h1.length t (wipeR ρ own) (ev call cond).t (ev call elt).v its its.len 0 (h1 ++ [.lst []])
  | .dnew => .ofV fun _ h => .ok (.loc h.length) (h ++ [.dct []])
  | .dget a b => .ofV fun ρ h => ((ev call a).v ρ h).bind fun x h1 => ((ev call b).v ρ h1).bind fun y h2 => R.ofO (dgetV h2 x y) h2
  | .din ng a b => { (Den.ofV fun ρ h => ((ev call a).v ρ h).bind fun x h1 => ((ev call b).v ρ h1).bind fun y h2 => R.ofO (dinV ng h2 x y) h2) with
      t := fun ρ h => (((ev call a).v ρ h).bind fun x h1 => ((ev call b).v ρ h1).bind fun y h2 => R.ofO (dinV ng h2 x y) h2).bind fun x h1 => match x with | .bl k => .ok k h1 | _ => .no }
  | .dgt a b c => .ofV fun ρ h => ((ev call a).v ρ h).bind fun x h1 => if (dctL h1 x).isSome then ((ev call b).v ρ h1).bind fun y h2 => ((ev call c).v ρ h2).bind fun z h3 => R.ofO (dgtV h3 x y z) h3 else .no
  | .deq ng a b => { (Den.ofV fun ρ h => ((ev call a).v ρ h).bind fun x h1 => ((ev call b).v ρ h1).bind fun y h2 => R.ofO (deqV ng h2 x y) h2) with
      t := fun ρ h => (((ev call a).v ρ h).bind fun x h1 => ((ev call b).v ρ h1).bind fun y h2 => R.ofO (deqV ng h2 x y) h2).bind fun x h1 => match x with | .bl k => .ok k h1 | _ => .no }
  | .dc own t it cond kx vx => .ofV fun ρ h => ((ev call it).i ρ h).bind fun its h1 => dcLoop h1.length t (wipeR ρ own) (ev call cond).t (ev call kx).v (ev call vx).v its its.len 0 (h1 ++ [.dct []])
  | .enm a => { Den.none with i := fun ρ h => ((ev call a).v ρ h).bind fun x h1 => R.ofO (enmOf h1 x) h1 }
  | .lcn own t it cond rest => .ofV fun ρ h => ((ev call it).i ρ h).bind fun its h1 => (clLoop t (wipeR ρ own) (ev call cond).t ((ev call rest).c h1.length) its its.len 0 (h1 ++ [.lst []])).bind fun _ h2 => .ok (.loc h1.length) h2
  | .cl own t it cond rest => { Den.none with c := fun n ρ h => ((ev call it).i ρ h).bind fun its h1 => clLoop t (wipeR ρ own) (ev call cond).t ((ev call rest).c n) its its.len 0 h1 }
  | .el e => { Den.none with c := fun n ρ h => ((ev call e).v ρ h).bind fun y h1 => addL n y h1 }
  | .lrg a b => .ofV fun ρ h => ((ev call a).v ρ h).bind fun x h1 => ((ev call b).v ρ h1).bind fun y h2 => lrgV x y h2
  | .d1 a b => .ofV fun ρ h => ((ev call a).v ρ (h ++ [.dct []])).bind fun x h1 => ((ev call b).v ρ h1).bind fun y h2 => d1V h.length x y h2
  | .chn o p a b c => { (Den.ofV fun ρ h => ((ev call a).v ρ h).bind fun x h1 => ((ev call b).v ρ h1).bind fun y h2 => (R.ofO (cmpV o h2 x y) h2).bind fun u h3 => match u with
      | .bl true => ((ev call c).v ρ h3).bind fun z h4 => R.ofO (cmpV p h4 y z) h4
      | .bl false => .ok (.bl false) h3
      | _ => .no) with
      t := fun ρ h => (((ev call a).v ρ h).bind fun x h1 => ((ev call b).v ρ h1).bind fun y h2 => (R.ofO (cmpV o h2 x y) h2).bind fun u h3 => match u with
      | .bl true => ((ev call c).v ρ h3).bind fun z h4 => R.ofO (cmpV p h4 y z) h4
      | .bl false => .ok (.bl false) h3
      | _ => .no).bind fun x h1 => match x with | .bl k => .ok k h1 | _ => .no }
  | .fld a f => .ofV fun ρ h => ((ev call a).v ρ h).bind fun x h1 => R.ofO (fldV h1 x f) h1
  | .mcl k c m o es => .ofV fun ρ h => ((ev call o).v ρ h).bind fun x h1 => if isObj h1 x c m then ((ev call es).a ρ h1).bind fun xs h2 => call k (x :: xs) h2 else .no
  | .new k c es => .ofV fun ρ h => ((ev call es).a ρ h).bind fun xs h1 => (call k (.loc h1.length :: xs) (h1 ++ [.obj c []])).bind fun v h2 => if v.isNon then .ok (.loc h1.length) h2 else .no

/-! ### statements -/
inductive RS where
  | no | nx (ρ : Rho) (h : MH) | rt (v : Val) (h : MH) | bk (ρ : Rho) (h : MH) | ct (ρ : Rho) (h : MH) | ex (c : Nat) (as : List Val) (ρ : Rho) (h : MH)
def RS.andThen (r : RS) (f : Rho → MH → RS) : RS :=
  match r with
  | .nx ρ h => f ρ h
  | r => r
@[simp] theorem RS.andThen_no (f : Rho → MH → RS) : RS.no.andThen f = .no := rfl
@[simp] theorem RS.andThen_nx (ρ : Rho) (h : MH) (f : Rho → MH → RS) : (RS.nx ρ h).andThen f = f ρ h := rfl
@[simp] theorem RS.andThen_rt (v : Val) (h : MH) (f : Rho → MH → RS) : (RS.rt v h).andThen f = .rt v h := rfl
@[simp] theorem RS.andThen_bk (ρ : Rho) (h : MH) (f : Rho → MH → RS) : (RS.bk ρ h).andThen f = .bk ρ h := rfl
@[simp] theorem RS.andThen_ct (ρ : Rho) (h : MH) (f : Rho → MH → RS) : (RS.ct ρ h).andThen f = .ct ρ h := rfl
@[simp] theorem RS.andThen_ex (c : Nat) (as : List Val) (ρ : Rho) (h : MH) (f : Rho → MH → RS) : (RS.ex c as ρ h).andThen f = .ex c as ρ h := rfl
/-- an expression's outcome in a statement -/
def R.toS {α : Type} (ρ : Rho) (r : R α) (f : α → MH → RS) : RS :=
  match r with
  | .no => .no
  | .ok a h => f a h
  | .ex c as h => .ex c as ρ h
@[simp] theorem R.toS_no {α : Type} (ρ : Rho) (f : α → MH → RS) : (R.no : R α).toS ρ f = .no := rfl
@[simp] theorem R.toS_ok {α : Type} (ρ : Rho) (a : α) (h : MH) (f : α → MH → RS) : (R.ok a h).toS ρ f = f a h := rfl
@[simp] theorem R.toS_ex {α : Type} (ρ : Rho) (c : Nat) (as : List Val) (h : MH) (f : α → MH → RS) : (R.ex c as h : R α).toS ρ f = .ex c as ρ h := rfl
def whl (c : Rho → MH → R Bool) (b : Rho → MH → RS) : Nat → Rho → MH → RS
  | 0, _, _ => .no
  | n + 1, ρ, h => (c ρ h).toS ρ fun x h1 => if x then
      (match b ρ h1 with
      | .nx ρ' h' => whl c b n ρ' h'
      | .ct ρ' h' => whl c b n ρ' h'
      | .bk ρ' h' => .nx ρ' h'
      | r => r) else .nx ρ h1
def forL (t : NT) (b : Rho → MH → RS) (it : Items) : Nat → Nat → Rho → MH → RS
  | 0, _, ρ, h => if it.fin h then .nx ρ h else .no
  | m + 1, i, ρ, h =>
    match it.get h i with
    | some x => match setN t x ρ with
      | some ρ1 => match b ρ1 h with
        | .nx ρ' h' => forL t b it m (i + 1) ρ' h'
        | .ct ρ' h' => forL t b it m (i + 1) ρ' h'
        | .bk ρ' h' => .nx ρ' h'
        | r => r
      | Option.none => .no
    | Option.none => .no
/-- a target of names takes a list's items -/
def setU (is : List Nat) (v : Val) (h : MH) (ρ : Rho) : Option Rho :=
  match v with
  | .loc n => match seqL h n with
    | some vs => setNs is vs ρ
    | none => none
  | _ => none
def forU (is : List Nat) (b : Rho → MH → RS) (it : Items) : Nat → Nat → Rho → MH → RS
  | 0, _, ρ, h => if it.fin h then .nx ρ h else .no
  | m + 1, i, ρ, h =>
    match it.get h i with
    | some x => match setU is x h ρ with
      | some ρ1 => match b ρ1 h with
        | .nx ρ' h' => forU is b it m (i + 1) ρ' h'
        | .ct ρ' h' => forU is b it m (i + 1) ρ' h'
        | .bk ρ' h' => .nx ρ' h'
        | r => r
      | Option.none => .no
    | Option.none => .no
def augF : Operator → Option (Int → Int → Int)
  | .Add => some fun i j => i + j
  | .Sub => some fun i j => i - j
  | _ => none
def manyTurns : Nat := 1000000000000
def evEhL (as : List Val) : EhL → Option Val
  | .cst v => some v
  | .fld => as[0]?
def evEhT (c : Nat) (as : List Val) : EhT → Option Bool
  | .isi cs => some (cs.contains c)
  | .feq i => match as with | [.int j] => some (decide (j = i)) | _ => none
  | .not_ a => (evEhT c as a).map (!·)
  | .and_ a b => match evEhT c as a with | some true => evEhT c as b | r => r
  | .or_ a b => match evEhT c as a with | some false => evEhT c as b | r => r
def evEhLs (as : List Val) : List EhL → Option (List Val)
  | [] => some []
  | l :: r => match evEhL as l, evEhLs as r with | some v, some vs => some (v :: vs) | _, _ => none
def evEhV (as : List Val) (h : MH) : EhV → Option (Val × MH)
  | .leaf l => (evEhL as l).map fun v => (v, h)
  | .tup ls => if ls.length ≤ 100 then (evEhLs as ls).map fun vs => (.tup vs, h) else none
  | .lst ls => if ls.length ≤ 100 then (evEhLs as ls).map fun vs => (.loc h.length, h ++ [.lst vs]) else none
def evEhS (c : Nat) (as : List Val) (h : MH) : EhS → Option (Option (Val × MH))
  | .nil => some none
  | .ret v => (evEhV as h v).map some
  | .ite t a r => match evEhT c as t with
    | some true => match evEhS c as h a with
      | some none => evEhS c as h r
      | x => x
    | some false => evEhS c as h r
    | none => none
def runHs (c : Nat) (as : List Val) (ρ : Rho) (h : MH) : List (List Nat × Nat × EhS) → RS
  | [] => .ex c as ρ h
  | (cs, n, s) :: r => if cs.contains c then (if ρ.length ≤ n then .no else match evEhS c as h s with
      | some (some (v, h')) => .rt v h'
      | some none => .nx (ρ.set n none) h
      | none => .no) else runHs c as ρ h r
def tryR (hs : List (List Nat × Nat × EhS)) : RS → RS
  | .ex c as ρ h => runHs c as ρ h hs
  | r => r
def evS (call : CallT) : S → Rho → MH → RS
  | .skip => fun ρ h => .nx ρ h
  | .raise c es => fun ρ h => ((ev call es).a ρ h).toS ρ fun vs h1 => if vs.all Val.atom then .ex c vs ρ h1 else .no
  | .try_ b hs => fun ρ h => tryR hs (evS call b ρ h)
  | .seq a b => fun ρ h => (evS call a ρ h).andThen (evS call b)
  | .asg t e => fun ρ h => ((ev call e).v ρ h).toS ρ fun v h1 => match t with
      | .nt t => match setN t v ρ with | some ρ' => .nx ρ' h1 | Option.none => .no
      | .sn o i j => match v with
        | .tup [v1, v2] => ((ev call o).v ρ h1).toS ρ fun x h2 => ((ev call i).v ρ h2).toS ρ fun y h3 => (setV x y v1 h3).toS ρ fun _ h4 => .nx (ρ.set j (some v2)) h4
        | _ => .no
      | .sub o i => ((ev call o).v ρ h1).toS ρ fun x h2 => ((ev call i).v ρ h2).toS ρ fun y h3 => (setV x y v h3).toS ρ fun _ h4 => .nx ρ h4
  | .aug i o e => fun ρ h => match (ρ[i]?).join, augF o with
      | some (.int a), some f => ((ev call e).v ρ h).toS ρ fun y h1 => match y with
        | .int b => .nx (ρ.set i (some (.int (f a b)))) h1
        | _ => .no
      | _, _ => .no
  | .expr e => fun ρ h => ((ev call e).v ρ h).toS ρ fun _ h1 => .nx ρ h1
  | .ret e => fun ρ h => ((ev call e).v ρ h).toS ρ fun v h1 => .rt v h1
  | .retn => fun _ h => .rt .non h
  | .ite c a b => fun ρ h => ((ev call c).t ρ h).toS ρ fun x h1 => if x then evS call a ρ h1 else evS call b ρ h1
  | .whl c b => fun ρ h => whl (ev call c).t (evS call b) manyTurns ρ h
  | .for_ t it b => fun ρ h => ((ev call it).i ρ h).toS ρ fun its h1 => forL t (evS call b) its its.len 0 ρ h1
  | .dput d k e => fun ρ h => ((ev call e).v ρ h).toS ρ fun v h1 => ((ev call d).v ρ h1).toS ρ fun x h2 => ((ev call k).v ρ h2).toS ρ fun y h3 => (dputV x y v h3).toS ρ fun _ h4 => .nx ρ h4
  | .dcp t d g => fun ρ h => match (ρ[d]?).join, (ρ[g]?).join with
      | some (.loc n), some (.loc m) => if n = m ∨ d = t ∨ g = t ∨ ρ.length ≤ t then .no else match h[n]?, h[m]? with
        | some (.dct ps), some (.dct gs) => match dCopy ps ps gs with
          | some ls => .nx (setLast t ps ρ) (h.set m (.dct ls))
          | Option.none => .no
        | _, _ => .no
      | _, _ => .no
  | .fset c o f e => fun ρ h => ((ev call e).v ρ h).toS ρ fun v h1 => ((ev call o).v ρ h1).toS ρ fun x h2 => (fsetV c f x v h2).toS ρ fun _ h3 => .nx ρ h3
  | .faug c o f op e => fun ρ h => ((ev call o).v ρ h).toS ρ fun x h1 => match fldC h1 x c f, augF op with
      | some (.int a), some g => ((ev call e).v ρ h1).toS ρ fun y h2 => match y with
        | .int b => (fsetV c f x (.int (g a b)) h2).toS ρ fun _ h3 => .nx ρ h3
        | _ => .no
      | _, _ => .no
  | .ddel d k => fun ρ h => ((ev call d).v ρ h).toS ρ fun x h1 => ((ev call k).v ρ h1).toS ρ fun y h2 => (ddelV x y h2).toS ρ fun _ h3 => .nx ρ h3
  | .forU is it b => fun ρ h => ((ev call it).i ρ h).toS ρ fun its h1 => forU is (evS call b) its its.len 0 ρ h1
  | .brk => fun ρ h => .bk ρ h
  | .cnt => fun ρ h => .ct ρ h
  | .never => fun _ _ => .no

/-- a def: its parameters, its names, its body -/
structure Fn where
  np : Nat
  nn : Nat
  body : S
def callK (ft : List Fn) : Nat → CallT
  | 0 => fun _ _ _ => .no
  | k + 1 => fun f vs h => match ft[f]? with
    | some F => if vs.length = F.np ∧ F.np ≤ F.nn then
        (match evS (callK ft k) F.body (vs.map some ++ List.replicate (F.nn - vs.length) Option.none) h with
        | .rt v h' => .ok v h'
        | .nx _ h' => .ok .non h'
        | .ex c as _ h' => .ex c as h'
        | _ => .no) else .no
    | Option.none => .no
end Gu
end

section
set_option Elab.async false
set_option linter.all false
set_option maxRecDepth 100000
/-! Gu2: how values and the heap of numbered lists lie in the machine's heap; operations by values. -/
namespace Gu
open PySem PySem.Spec PyProof.Rows L2

def toS (s : List Nat) : Str := ⟨s.toArray⟩
@[simp] theorem toS_len (s : List Nat) : (toS s).length = s.length := by
  show s.toArray.size = s.length
  simp
@[simp] theorem toS_cps (s : List Nat) : (toS s).cps.toList = s := by unfold toS; simp
theorem toS_inj {a b : List Nat} (h : toS a = toS b) : a = b := by
  have := congrArg (fun x : Str => x.cps.toList) h
  simpa using this
/-- signs of a text, its length -/
def okS (s : List Nat) : Prop := (∀ c ∈ s, c < 1114112) ∧ s.length ≤ sizeLine
theorem okS.nil : okS [] := ⟨fun _ h => (by cases h), Nat.zero_le _⟩
theorem okS.cut {s : List Nat} (h : okS s) (lo hi : Option Int) : okS (cutL s lo hi) := by
  unfold cutL
  refine ⟨fun c hc => h.1 c (List.mem_of_mem_drop (List.mem_of_mem_take hc)), ?_⟩
  rw [List.length_take, List.length_drop]
  have := h.2
  omega
theorem okS.one {s : List Nat} (h : okS s) {c : Nat} (hc : c ∈ s) : okS [c] := ⟨fun d hd => by
  have e : d = c := by simpa using hd
  subst e
  exact h.1 d hc, by show 1 ≤ sizeLine; decide⟩

/-- a list that stands still: known to the object, or of the module -/
def SqF (K : PySem.W.Frag) (H : Hp) (a : Addr) (xs : List V) : Prop :=
  (∃ o, H a = some (.frz o (.lst xs))) ∨ ∃ o its n, List.lookup a K = some o ∧ o.cls = Value.type "list" ∧ o.dict = none ∧ o.data = Data.seq its n ∧ its.size ≤ sizeLine ∧ Vals xs its.toList
theorem SqF.sq {K : PySem.W.Frag} {H : Hp} {a : Addr} {xs : List V} (h : SqF K H a xs) : SqL K H a xs := by
  rcases h with ⟨o, h⟩ | h
  · exact .inl (.inr ⟨o, h⟩)
  · exact .inr h
mutual
def RV (K : PySem.W.Frag) (H : Hp) (L : List Addr) : Val → V → Prop
  | .non, x => x = .non
  | .bl b, x => x = .bl b
  | .int i, x => x = .int i
  | .str s, x => x = .str (toS s) ∧ okS s
  | .tup vs, x => ∃ a xs, x = .ref a ∧ SqT K H a xs ∧ RVs K H L vs xs
  | .fro vs, x => ∃ a xs, x = .ref a ∧ SqF K H a xs ∧ RVs K H L vs xs
  | .loc n, x => ∃ a, L[n]? = some a ∧ x = .ref a
  | .dct _, _ => False
def RVs (K : PySem.W.Frag) (H : Hp) (L : List Addr) : List Val → List V → Prop
  | [], xs => xs = []
  | v :: vs, xs => ∃ x r, xs = x :: r ∧ RV K H L v x ∧ RVs K H L vs r
end
/-- what may be built on -/
structure Ext (K : PySem.W.Frag) (H : Hp) (L : List Addr) (H' : Hp) (L' : List Addr) : Prop where
  pre : L <+: L'
  tup : ∀ a xs, SqT K H a xs → SqT K H' a xs
  fro : ∀ a xs, SqF K H a xs → SqF K H' a xs
theorem Ext.refl {K : PySem.W.Frag} {H : Hp} {L : List Addr} : Ext K H L H L := ⟨List.prefix_rfl, fun _ _ h => h, fun _ _ h => h⟩
theorem Ext.trans {K : PySem.W.Frag} {H H1 H2 : Hp} {L L1 L2 : List Addr} (a : Ext K H L H1 L1) (b : Ext K H1 L1 H2 L2) : Ext K H L H2 L2 :=
  ⟨a.pre.trans b.pre, fun c xs h => b.tup c xs (a.tup c xs h), fun c xs h => b.fro c xs (a.fro c xs h)⟩
theorem get_pre {α : Type} {L L' : List α} (h : L <+: L') {n : Nat} {a : α} (e : L[n]? = some a) : L'[n]? = some a := by
  obtain ⟨t, rfl⟩ := h
  obtain ⟨hn, _⟩ := List.getElem?_eq_some_iff.mp e
  rw [List.getElem?_append_left hn]
  exact e
section
variable {K : PySem.W.Frag} {H H' : Hp} {L L' : List Addr}
mutual
theorem RV.mono (x : Ext K H L H' L') : ∀ (v : Val) (y : V), RV K H L v y → RV K H' L' v y
  | .non, y, h => by unfold RV at *; exact h
  | .bl _, y, h => by unfold RV at *; exact h
  | .int _, y, h => by unfold RV at *; exact h
  | .str _, y, h => by unfold RV at *; exact h
  | .tup vs, y, h => by
    unfold RV at *
    obtain ⟨a, xs, e, h1, h2⟩ := h
    exact ⟨a, xs, e, x.tup _ _ h1, RVs.mono x vs xs h2⟩
  | .fro vs, y, h => by
    unfold RV at *
    obtain ⟨a, xs, e, h1, h2⟩ := h
    exact ⟨a, xs, e, x.fro _ _ h1, RVs.mono x vs xs h2⟩
  | .loc n, y, h => by
    unfold RV at *
    obtain ⟨a, h1, h2⟩ := h
    exact ⟨a, get_pre x.pre h1, h2⟩
  | .dct _, y, h => by unfold RV at h; exact h.elim
theorem RVs.mono (x : Ext K H L H' L') : ∀ (vs : List Val) (ys : List V), RVs K H L vs ys → RVs K H' L' vs ys
  | [], ys, h => by unfold RVs at *; exact h
  | v :: vs, ys, h => by
    unfold RVs at *
    obtain ⟨y, r, e, h1, h2⟩ := h
    exact ⟨y, r, e, RV.mono x v y h1, RVs.mono x vs r h2⟩
end
theorem RVs.nil : RVs K H L [] [] := by unfold RVs; rfl
theorem RVs.cons {v : Val} {vs : List Val} {y : V} {ys : List V} (h : RV K H L v y) (t : RVs K H L vs ys) : RVs K H L (v :: vs) (y :: ys) := by
  unfold RVs; exact ⟨y, ys, rfl, h, t⟩
theorem RVs.inv {v : Val} {vs : List Val} {ys : List V} (h : RVs K H L (v :: vs) ys) : ∃ y r, ys = y :: r ∧ RV K H L v y ∧ RVs K H L vs r := by
  unfold RVs at h; exact h
theorem RVs.inv0 {ys : List V} (h : RVs K H L [] ys) : ys = [] := by unfold RVs at h; exact h
theorem RVs.length : ∀ {vs : List Val} {ys : List V}, RVs K H L vs ys → vs.length = ys.length
  | [], ys, h => by rw [RVs.inv0 h]; rfl
  | v :: vs, ys, h => by
    obtain ⟨y, r, rfl, _, h2⟩ := RVs.inv h
    simp [RVs.length h2]
theorem RVs.get : ∀ {vs : List Val} {ys : List V} {i : Nat} {v : Val}, RVs K H L vs ys → vs[i]? = some v → ∃ y, ys[i]? = some y ∧ RV K H L v y
  | [], _, _, _, _, e => by simp at e
  | w :: vs, ys, 0, v, h, e => by
    obtain ⟨y, r, rfl, h1, _⟩ := RVs.inv h
    have e' : w = v := by simpa using e
    subst e'
    exact ⟨y, rfl, h1⟩
  | w :: vs, ys, i + 1, v, h, e => by
    obtain ⟨y, r, rfl, _, h2⟩ := RVs.inv h
    obtain ⟨z, h3, h4⟩ := RVs.get (i := i) h2 (by simpa using e)
    exact ⟨z, by simpa using h3, h4⟩
theorem RVs.append : ∀ {vs ws : List Val} {ys zs : List V}, RVs K H L vs ys → RVs K H L ws zs → RVs K H L (vs ++ ws) (ys ++ zs)
  | [], _, ys, _, h, k => by rw [RVs.inv0 h]; exact k
  | v :: vs, _, ys, _, h, k => by
    obtain ⟨y, r, rfl, h1, h2⟩ := RVs.inv h
    exact RVs.cons h1 (RVs.append h2 k)
theorem RVs.drop : ∀ (n : Nat) {vs : List Val} {ys : List V}, RVs K H L vs ys → RVs K H L (vs.drop n) (ys.drop n)
  | 0, _, _, h => h
  | n + 1, [], ys, h => by rw [RVs.inv0 h]; exact RVs.nil
  | n + 1, v :: vs, ys, h => by
    obtain ⟨y, r, rfl, _, h2⟩ := RVs.inv h
    exact RVs.drop n h2
theorem RVs.take : ∀ (n : Nat) {vs : List Val} {ys : List V}, RVs K H L vs ys → RVs K H L (vs.take n) (ys.take n)
  | 0, _, _, h => RVs.nil
  | n + 1, [], ys, h => by rw [RVs.inv0 h]; exact RVs.nil
  | n + 1, v :: vs, ys, h => by
    obtain ⟨y, r, rfl, h1, h2⟩ := RVs.inv h
    exact RVs.cons h1 (RVs.take n h2)
theorem RVs.set : ∀ (n : Nat) {vs : List Val} {ys : List V} {w : Val} {z : V}, RVs K H L vs ys → RV K H L w z → RVs K H L (vs.set n w) (ys.set n z)
  | _, [], ys, _, _, h, _ => by rw [RVs.inv0 h]; exact RVs.nil
  | 0, v :: vs, ys, _, _, h, k => by
    obtain ⟨y, r, rfl, h1, h2⟩ := RVs.inv h
    exact RVs.cons k h2
  | n + 1, v :: vs, ys, _, _, h, k => by
    obtain ⟨y, r, rfl, h1, h2⟩ := RVs.inv h
    exact RVs.cons h1 (RVs.set n h2 k)
theorem RVs.dropLast {vs : List Val} {ys : List V} (h : RVs K H L vs ys) : RVs K H L vs.dropLast ys.dropLast := by
  rw [List.dropLast_eq_take, List.dropLast_eq_take, ← h.length]
  exact h.take _
theorem RVs.cut {vs : List Val} {ys : List V} (h : RVs K H L vs ys) (lo hi : Option Int) : RVs K H L (cutL vs lo hi) (cutV ys lo hi) := by
  unfold cutL cutV
  rw [← h.length]
  exact (h.drop _).take _
end

/-- a key of a dict -/
def keyOf : Val → Option Key
  | .int i => some (.inl i)
  | .str s => some (.inr (toS s))
  | _ => none
/-- a dict's pairs -/
def RD (K : PySem.W.Frag) (H : Hp) (L : List Addr) : List Val → List (Key × V) → Prop
  | [], kvs => kvs = []
  | p :: r, kvs => ∃ k v kk x s, p = .tup [k, v] ∧ kvs = (kk, x) :: s ∧ keyOf k = some kk ∧ RV K H L k (kV kk) ∧ RV K H L v x ∧ RD K H L r s
theorem RD.mono {K : PySem.W.Frag} {H H' : Hp} {L L' : List Addr} (x : Ext K H L H' L') : ∀ {ps : List Val} {kvs : List (Key × V)}, RD K H L ps kvs → RD K H' L' ps kvs
  | [], kvs, h => h
  | p :: r, kvs, h => by
    obtain ⟨k, v, kk, y, s, e1, e2, e3, e4, e5, e6⟩ := h
    exact ⟨k, v, kk, y, s, e1, e2, e3, RV.mono x _ _ e4, RV.mono x _ _ e5, RD.mono x e6⟩
theorem RD.length {K : PySem.W.Frag} {H : Hp} {L : List Addr} : ∀ {ps : List Val} {kvs : List (Key × V)}, RD K H L ps kvs → ps.length = kvs.length
  | [], kvs, h => by rw [show kvs = [] from h]; rfl
  | p :: r, kvs, h => by
    obtain ⟨k, v, kk, y, s, e1, e2, e3, e4, e5, e6⟩ := h
    rw [e2]
    simp [RD.length e6]
/-- an instance's attributes -/
def RF (K : PySem.W.Frag) (H : Hp) (L : List Addr) : List (Str × Val) → List (Str × V) → Prop
  | [], xs => xs = []
  | (f, v) :: r, xs => ∃ x s, xs = (f, x) :: s ∧ RV K H L v x ∧ RF K H L r s
theorem RF.mono {K : PySem.W.Frag} {H H' : Hp} {L L' : List Addr} (x : Ext K H L H' L') : ∀ {fs : List (Str × Val)} {xs : List (Str × V)}, RF K H L fs xs → RF K H' L' fs xs
  | [], xs, h => h
  | (f, v) :: r, xs, h => by
    obtain ⟨y, s, e1, e2, e3⟩ := h
    exact ⟨y, s, e1, RV.mono x _ _ e2, RF.mono x e3⟩
theorem RF.length {K : PySem.W.Frag} {H : Hp} {L : List Addr} : ∀ {fs : List (Str × Val)} {xs : List (Str × V)}, RF K H L fs xs → fs.length = xs.length
  | [], xs, h => by rw [show xs = [] from h]; rfl
  | (f, v) :: r, xs, h => by
    obtain ⟨y, s, e1, e2, e3⟩ := h
    rw [e1]
    simp [RF.length e3]
theorem RF.some_of {K : PySem.W.Frag} {H : Hp} {L : List Addr} {g : Str} {w : Val} : ∀ {fs : List (Str × Val)} {xs : List (Str × V)}, RF K H L fs xs → fs.lookup g = some w → ∃ y, xs.lookup g = some y ∧ RV K H L w y
  | [], xs, h, e => by cases e
  | (f, v) :: r, xs, h, e => by
    obtain ⟨y, s, e1, e2, e3⟩ := h
    rw [e1]
    rw [List.lookup_cons] at e ⊢
    cases q : g == f with
    | true => rw [q] at e; cases e; exact ⟨y, rfl, e2⟩
    | false => rw [q] at e; exact RF.some_of e3 e
theorem RF.none_of {K : PySem.W.Frag} {H : Hp} {L : List Addr} {g : Str} : ∀ {fs : List (Str × Val)} {xs : List (Str × V)}, RF K H L fs xs → fs.lookup g = none → xs.lookup g = none
  | [], xs, h, e => by rw [show xs = [] from h]; rfl
  | (f, v) :: r, xs, h, e => by
    obtain ⟨y, s, e1, e2, e3⟩ := h
    rw [e1]
    rw [List.lookup_cons] at e ⊢
    cases q : g == f with
    | true => rw [q] at e; cases e
    | false => rw [q] at e; exact RF.none_of e3 e
theorem RF.put {K : PySem.W.Frag} {H : Hp} {L : List Addr} {g : Str} {w : Val} {z : V} (k : RV K H L w z) : ∀ {fs : List (Str × Val)} {xs : List (Str × V)}, RF K H L fs xs → RF K H L (putA g w fs) (putF g z xs)
  | [], xs, h => by rw [show xs = [] from h]; exact ⟨z, [], rfl, k, rfl⟩
  | (f, v) :: r, xs, h => by
    obtain ⟨y, s, e1, e2, e3⟩ := h
    rw [e1]
    unfold putA putF
    split
    · exact ⟨z, s, rfl, k, e3⟩
    · exact ⟨y, _, rfl, e2, RF.put k e3⟩
/-- what is known of an instance's class -/
def OK1 (K : PySem.W.Frag) (c : Str) (fs : List (Str × Val)) : Prop := Cls K (He.ga K c) ∧ ∀ p ∈ fs, NoAttr K (He.ga K c) p.1
theorem putA_mem {f : Str} {v : Val} {p : Str × Val} : ∀ {fs : List (Str × Val)}, p ∈ putA f v fs → p.1 = f ∨ ∃ q ∈ fs, q.1 = p.1
  | [], h => by
    have : p = (f, v) := by simpa [putA] using h
    exact .inl (by rw [this])
  | (g, x) :: r, h => by
    unfold putA at h
    split at h
    · rename_i e
      rcases List.mem_cons.mp h with rfl | h
      · exact .inl e
      · exact .inr ⟨p, List.mem_cons_of_mem _ h, rfl⟩
    · rcases List.mem_cons.mp h with rfl | h
      · exact .inr ⟨_, List.mem_cons_self, rfl⟩
      · rcases putA_mem h with e | ⟨q, hq, e⟩
        · exact .inl e
        · exact .inr ⟨q, List.mem_cons_of_mem _ hq, e⟩
/-- what stands at a number -/
def MOk (K : PySem.W.Frag) (H : Hp) (L : List Addr) (a : Addr) : MO → Prop
  | .lst vs => ∃ xs, H a = some (.lst xs) ∧ RVs K H L vs xs
  | .dct ps => ∃ kvs, H a = some (.dK kvs) ∧ RD K H L ps kvs
  | .obj c fs => ∃ dx xs, H a = some (.ins (He.ga K c) dx xs) ∧ RF K H L fs xs ∧ OK1 K c fs
theorem MOk.mut {K : PySem.W.Frag} {H : Hp} {L : List Addr} {a : Addr} {o : MO} (k : MOk K H L a o) : H a ≠ none ∧ (∀ xs, H a ≠ some (.tup xs)) ∧ ∀ ob u, H a ≠ some (.frz ob u) := by
  cases o with
  | lst vs => obtain ⟨xs, h1, _⟩ := k; rw [h1]; exact ⟨fun q => (nomatch q), fun _ q => (nomatch q), fun _ _ q => (nomatch q)⟩
  | dct vs => obtain ⟨xs, h1, _⟩ := k; rw [h1]; exact ⟨fun q => (nomatch q), fun _ q => (nomatch q), fun _ _ q => (nomatch q)⟩
  | obj c fs => obtain ⟨dx, xs, h1, _⟩ := k; rw [h1]; exact ⟨fun q => (nomatch q), fun _ q => (nomatch q), fun _ _ q => (nomatch q)⟩
structure HR (K : PySem.W.Frag) (H : Hp) (L : List Addr) (h : MH) : Prop where
  len : L.length = h.length
  nd : L.Nodup
  ok : ∀ (n : Nat) (o : MO), h[n]? = some o → ∃ a, L[n]? = some a ∧ MOk K H L a o
section
variable {K : PySem.W.Frag} {H H' : Hp} {L L' : List Addr} {h : MH}
theorem HR.at (r : HR K H L h) {n : Nat} {a : Addr} {o : MO} (e : h[n]? = some o) (ea : L[n]? = some a) : MOk K H L a o := by
  obtain ⟨b, e1, k⟩ := r.ok n o e
  rw [ea] at e1; cases e1
  exact k
theorem HR.seq (r : HR K H L h) {n : Nat} {a : Addr} {vs : List Val} (e : seqL h n = some vs) (ea : L[n]? = some a) : ∃ xs, SqL K H a xs ∧ RVs K H L vs xs := by
  unfold seqL at e
  split at e
  · rename_i ys eh
    cases e
    obtain ⟨xs, h1, h2⟩ := r.at eh ea
    exact ⟨xs, SqL.of h1, h2⟩
  · cases e
theorem MOk.mono (x : Ext K H L H' L') {a : Addr} (e : H' a = H a) : ∀ {o : MO}, MOk K H L a o → MOk K H' L' a o
  | .lst vs, ⟨xs, h1, h2⟩ => ⟨xs, e.trans h1, RVs.mono x vs xs h2⟩
  | .dct vs, ⟨xs, h1, h2⟩ => ⟨xs, e.trans h1, RD.mono x h2⟩
  | .obj c fs, ⟨dx, xs, h1, h2, h3⟩ => ⟨dx, xs, e.trans h1, RF.mono x h2, h3⟩
theorem sqT_upd {a p : Addr} {xs : List V} {o : HO} (h : SqT K H a xs) (hp : ∀ xs, H p ≠ some (.tup xs)) (hf : ∀ ob u, H p ≠ some (.frz ob u)) : SqT K (upd H p o) a xs := by
  rcases h with (h | ⟨ob, h⟩) | h
  · refine .inl (.inl ?_)
    have : a ≠ p := fun e => hp xs (e ▸ h)
    rw [upd_ne this]; exact h
  · refine .inl (.inr ⟨ob, ?_⟩)
    have : a ≠ p := fun e => hf _ _ (e ▸ h)
    rw [upd_ne this]; exact h
  · exact .inr h
theorem sqF_upd {a p : Addr} {xs : List V} {o : HO} (h : SqF K H a xs) (hf : ∀ ob u, H p ≠ some (.frz ob u)) : SqF K (upd H p o) a xs := by
  rcases h with ⟨ob, h⟩ | h
  · refine .inl ⟨ob, ?_⟩
    have : a ≠ p := fun e => hf _ _ (e ▸ h)
    rw [upd_ne this]; exact h
  · exact .inr h
theorem Ext.new {p : Addr} {o : HO} (hp : H p = none) : Ext K H L (upd H p o) L :=
  ⟨List.prefix_rfl, fun a xs h => sqT_upd h (by rw [hp]; exact fun _ q => nomatch q) (by rw [hp]; exact fun _ _ q => nomatch q), fun a xs h => sqF_upd h (by rw [hp]; exact fun _ _ q => nomatch q)⟩
/-- a new object that is no list of ours -/
theorem HR.new (r : HR K H L h) {p : Addr} {o : HO} (hp : H p = none) : HR K (upd H p o) L h := by
  refine ⟨r.len, r.nd, fun n ob e => ?_⟩
  obtain ⟨a, ea, k⟩ := r.ok n ob e
  refine ⟨a, ea, k.mono (Ext.new hp) ?_⟩
  refine upd_ne ?_
  rintro rfl
  exact k.mut.1 hp
theorem HR.live (r : HR K H L h) {a : Addr} (ha : a ∈ L) : H a ≠ none := by
  obtain ⟨n, hn, rfl⟩ := List.getElem_of_mem ha
  have hn' : n < h.length := by rw [← r.len]; exact hn
  obtain ⟨b, eb, k⟩ := r.ok n h[n] (List.getElem?_eq_getElem hn')
  rw [List.getElem?_eq_getElem hn] at eb
  cases eb
  exact k.mut.1
theorem Ext.add {p : Addr} {o : HO} (hp : H p = none) : Ext K H L (upd H p o) (L ++ [p]) :=
  ⟨List.prefix_append _ _, (Ext.new (K := K) (L := L) (o := o) hp).tup, (Ext.new (K := K) (L := L) (o := o) hp).fro⟩
/-- a new object of ours -/
theorem HR.addO (r : HR K H L h) {p : Addr} {o : HO} {ob : MO} (hp : H p = none) (k : MOk K (upd H p o) (L ++ [p]) p ob) : HR K (upd H p o) (L ++ [p]) (h ++ [ob]) := by
  have ext := Ext.add (K := K) (L := L) (o := o) hp
  refine ⟨by simp [r.len], ?_, fun n ob' e => ?_⟩
  · rw [List.nodup_append]
    refine ⟨r.nd, by simp, fun a ha b hb => ?_⟩
    have : b = p := by simpa using hb
    subst this
    rintro rfl
    exact r.live ha hp
  · by_cases hn : n < h.length
    · rw [List.getElem?_append_left hn] at e
      obtain ⟨a, ea, k'⟩ := r.ok n ob' e
      refine ⟨a, get_pre ext.pre ea, k'.mono ext ?_⟩
      refine upd_ne ?_
      rintro rfl
      exact r.live (List.mem_of_getElem? ea) hp
    · have hn2 : n = h.length := by
        obtain ⟨q, _⟩ := List.getElem?_eq_some_iff.mp e
        simp at q
        omega
      subst hn2
      have e' : ob' = ob := by simpa using e.symm
      subst e'
      exact ⟨p, by rw [← r.len]; simp, k⟩
/-- a new list of ours -/
theorem HR.add (r : HR K H L h) {p : Addr} {vs : List Val} {xs : List V} (hp : H p = none) (k : RVs K H L vs xs) : HR K (upd H p (.lst xs)) (L ++ [p]) (h ++ [.lst vs]) :=
  r.addO hp ⟨xs, upd_same, RVs.mono (Ext.add hp) vs xs k⟩
/-- a new dict of ours -/
theorem HR.addD (r : HR K H L h) {p : Addr} (hp : H p = none) : HR K (upd H p (.dK [])) (L ++ [p]) (h ++ [.dct []]) :=
  r.addO hp ⟨[], upd_same, rfl⟩
/-- a new instance of ours, without attributes; its dict -/
theorem HR.addI (r : HR K H L h) {p dx : Addr} {c : Str} (hp : H p = none) (hd : H dx = none) (ne : dx ≠ p) (ok : Cls K (He.ga K c)) : HR K (upd (upd H dx (.own p)) p (.ins (He.ga K c) dx [])) (L ++ [p]) (h ++ [.obj c []]) :=
  (r.new hd).addO (by rw [upd_ne (Ne.symm ne)]; exact hp) ⟨dx, [], upd_same, rfl, ok, fun q hq => by cases hq⟩
theorem Ext.addI {p dx : Addr} {o o' : HO} (hp : H p = none) (hd : H dx = none) (ne : dx ≠ p) : Ext K H L (upd (upd H dx o) p o') (L ++ [p]) :=
  (Ext.new (K := K) (L := L) (o := o) hd).trans (Ext.add (K := K) (L := L) (o := o') (by rw [upd_ne (Ne.symm ne)]; exact hp))
theorem HR.ne_of (r : HR K H L h) {n m : Nat} {a b : Addr} (ea : L[n]? = some a) (eb : L[m]? = some b) (hnm : n ≠ m) : a ≠ b := by
  rintro rfl
  obtain ⟨h1, e1⟩ := List.getElem?_eq_some_iff.mp ea
  obtain ⟨h2, e2⟩ := List.getElem?_eq_some_iff.mp eb
  exact hnm ((List.getElem_inj r.nd).mp (e1.trans e2.symm))
theorem Ext.writeO {p : Addr} {o : HO} (hp : ∀ xs, H p ≠ some (.tup xs)) (hf : ∀ ob u, H p ≠ some (.frz ob u)) : Ext K H L (upd H p o) L :=
  ⟨List.prefix_rfl, fun a xs q => sqT_upd q hp hf, fun a xs h => sqF_upd h hf⟩
theorem Ext.write {p : Addr} {zs : List V} {o : HO} (hp : H p = some (.lst zs)) : Ext K H L (upd H p o) L :=
  Ext.writeO (by rw [hp]; exact fun _ z => nomatch z) (by rw [hp]; exact fun _ _ z => nomatch z)
/-- an object of ours changed -/
theorem HR.writeO (r : HR K H L h) {n : Nat} {p : Addr} {o : HO} {ob : MO} (ep : L[n]? = some p) (hp : ∀ xs, H p ≠ some (.tup xs)) (hf : ∀ ob u, H p ≠ some (.frz ob u)) (k : MOk K (upd H p o) L p ob) : HR K (upd H p o) L (h.set n ob) := by
  have ext : Ext K H L (upd H p o) L := Ext.writeO hp hf
  refine ⟨by rw [List.length_set]; exact r.len, r.nd, fun m ob' e => ?_⟩
  by_cases hm : n = m
  · subst hm
    obtain ⟨hl, _⟩ := List.getElem?_eq_some_iff.mp ep
    have hl' : n < h.length := by rw [← r.len]; exact hl
    rw [List.getElem?_set_self hl'] at e
    cases e
    exact ⟨p, ep, k⟩
  · rw [List.getElem?_set_ne hm] at e
    obtain ⟨a, ea, k'⟩ := r.ok m ob' e
    exact ⟨a, ea, k'.mono ext (upd_ne (r.ne_of ea ep (Ne.symm hm)))⟩
/-- a list of ours changed -/
theorem HR.write (r : HR K H L h) {n : Nat} {p : Addr} {zs : List V} {vs : List Val} {xs : List V} (ep : L[n]? = some p) (hp : H p = some (.lst zs)) (k : RVs K H L vs xs) : HR K (upd H p (.lst xs)) L (h.set n (.lst vs)) :=
  r.writeO ep (by rw [hp]; exact fun _ z => nomatch z) (by rw [hp]; exact fun _ _ z => nomatch z) ⟨xs, upd_same, RVs.mono (Ext.write hp) vs xs k⟩
end

/-! ### outcomes -/
abbrev XW := Nat → List Val → MH → Hp → List Addr → Prop
def outV {α : Type} (K : PySem.W.Frag) (W : XW) (H : Hp) (L : List Addr) (r : R α) (k : α → MH → Hp → List Addr → Prop) : Prop :=
  match r with
  | .no => False
  | .ok a h' => ∀ H' L', HR K H' L' h' → Ext K H L H' L' → k a h' H' L'
  | .ex c as h' => ∀ H' L', HR K H' L' h' → Ext K H L H' L' → W c as h' H' L'
section
variable {K : PySem.W.Frag} {W : XW} {H H' : Hp} {L L' : List Addr} {h : MH} {α β : Type}
theorem outV.bind {r : R α} {f : α → MH → R β} {k : β → MH → Hp → List Addr → Prop} (q : outV K W H L (r.bind f) k) :
    outV K W H L r fun a h1 H1 L1 => outV K W H1 L1 (f a h1) k := by
  cases r with
  | no => exact q
  | ok a h1 =>
    intro H1 L1 r1 x1
    have q' : outV K W H L (f a h1) k := q
    cases e : f a h1 with
    | no => rw [e] at q'; exact q'
    | ok b h2 => rw [e] at q'; exact fun H2 L2 r2 x2 => q' H2 L2 r2 (x1.trans x2)
    | ex c as h2 => rw [e] at q'; exact fun H2 L2 r2 x2 => q' H2 L2 r2 (x1.trans x2)
  | ex c as h1 => exact q
theorem outV.imp {r : R α} {k k' : α → MH → Hp → List Addr → Prop} (q : outV K W H L r k) (i : ∀ a h' H' L', HR K H' L' h' → Ext K H L H' L' → k a h' H' L' → k' a h' H' L') : outV K W H L r k' := by
  cases r with
  | no => exact q
  | ok a h1 => exact fun H1 L1 r1 x1 => i _ _ _ _ r1 x1 (q H1 L1 r1 x1)
  | ex c as h1 => exact q
theorem outV.from (x : Ext K H L H' L') {r : R α} {k : α → MH → Hp → List Addr → Prop} (q : outV K W H L r k) : outV K W H' L' r k := by
  cases r with
  | no => exact q
  | ok a h1 => exact fun H1 L1 r1 x1 => q H1 L1 r1 (x.trans x1)
  | ex c as h1 => exact fun H1 L1 r1 x1 => q H1 L1 r1 (x.trans x1)
/-- it answers where it stands -/
theorem outV.here {a : α} {k : α → MH → Hp → List Addr → Prop} (q : outV K W H L (.ok a h) k) (r : HR K H L h) : k a h H L := q H L r .refl
theorem outV.ofO {o : Option α} {k : α → MH → Hp → List Addr → Prop} (q : outV K W H L (R.ofO o h) k) (r : HR K H L h) : ∃ a, o = some a ∧ k a h H L := by
  cases o with
  | none => exact q.elim
  | some a => exact ⟨a, rfl, q.here r⟩
end
end Gu
end

section
set_option Elab.async false
set_option linter.all false
set_option maxRecDepth 100000
/-! Gu3: operations by values. -/
namespace Gu
open PySem PySem.Spec PyProof.Rows L2

theorem toS_append (a b : List Nat) : toS a ++ toS b = toS (a ++ b) := by
  show (⟨a.toArray ++ b.toArray⟩ : Str) = ⟨(a ++ b).toArray⟩
  simp
section
variable {K : PySem.W.Frag} {W : XW} {H H' : Hp} {L L' : List Addr} {h : MH} {x y : V}
theorem RV.non_of (h : RV K H L .non x) : x = .non := by unfold RV at h; exact h
theorem RV.bl_of {b : Bool} (h : RV K H L (.bl b) x) : x = .bl b := by unfold RV at h; exact h
theorem RV.int_of {b : Int} (h : RV K H L (.int b) x) : x = .int b := by unfold RV at h; exact h
theorem RV.str_of {s : List Nat} (h : RV K H L (.str s) x) : x = .str (toS s) ∧ okS s := by unfold RV at h; exact h
theorem RV.tup_of {vs : List Val} (h : RV K H L (.tup vs) x) : ∃ a xs, x = .ref a ∧ SqT K H a xs ∧ RVs K H L vs xs := by unfold RV at h; exact h
theorem RV.loc_of {n : Nat} (h : RV K H L (.loc n) x) : ∃ a, L[n]? = some a ∧ x = .ref a := by unfold RV at h; exact h
theorem RV.dct_of {vs : List Val} (h : RV K H L (.dct vs) x) : False := by unfold RV at h; exact h
theorem RV.fro_of {vs : List Val} (h : RV K H L (.fro vs) x) : ∃ a xs, x = .ref a ∧ SqF K H a xs ∧ RVs K H L vs xs := by unfold RV at h; exact h
theorem RV.mk_fro {vs : List Val} {a : Addr} {xs : List V} (h : SqF K H a xs) (k : RVs K H L vs xs) : RV K H L (.fro vs) (.ref a) := by unfold RV; exact ⟨a, xs, rfl, h, k⟩
theorem RV.mk_non : RV K H L .non .non := by unfold RV; rfl
theorem RV.mk_bl {b : Bool} : RV K H L (.bl b) (.bl b) := by unfold RV; rfl
theorem RV.mk_int {i : Int} : RV K H L (.int i) (.int i) := by unfold RV; rfl
theorem RV.mk_str {s : List Nat} (h : okS s) : RV K H L (.str s) (.str (toS s)) := by unfold RV; exact ⟨rfl, h⟩
theorem RV.mk_tup {vs : List Val} {a : Addr} {xs : List V} (h : SqT K H a xs) (k : RVs K H L vs xs) : RV K H L (.tup vs) (.ref a) := by unfold RV; exact ⟨a, xs, rfl, h, k⟩
theorem RV.mk_loc {n : Nat} {a : Addr} (h : L[n]? = some a) : RV K H L (.loc n) (.ref a) := by unfold RV; exact ⟨a, h, rfl⟩
theorem RV.newLoc (r : HR K H L h) {p : Addr} {H' : Hp} : RV K H' (L ++ [p]) (.loc h.length) (.ref p) := RV.mk_loc (by rw [← r.len]; simp)
theorem okS.app {a b : List Nat} (h : okS a) (k : okS b) (l : a.length + b.length ≤ sizeLine) : okS (a ++ b) := by
  refine ⟨fun c hc => (List.mem_append.mp hc).elim (h.1 c) (k.1 c), ?_⟩
  rw [List.length_append]
  exact l
theorem at_mem {α : Type} {xs : List α} {i : Int} {v : α} (e : atI xs i = some v) : v ∈ xs := by
  obtain ⟨j, _, h, _⟩ := atI_get e
  exact List.mem_of_getElem? h
theorem RVs.atI {vs : List Val} {ys : List V} {i : Int} {v : Val} (h : RVs K H L vs ys) (e : L2.atI vs i = some v) : ∃ y, L2.atI ys i = some y ∧ RV K H L v y := by
  unfold L2.atI at e ⊢
  rw [← h.length]
  cases q : ixN vs.length i with
  | none => rw [q] at e; cases e
  | some j =>
    rw [q] at e
    exact h.get e

/-! ### truth -/
theorem tru_of (r : HR K H L h) {v : Val} {k : Bool} (hv : RV K H L v x) (e : truV h v = some k) : TruV K x H k := by
  cases v with
  | non => rw [hv.non_of]; cases e; rfl
  | bl b => rw [hv.bl_of]; cases e; rfl
  | int i => rw [hv.int_of]; cases e; rfl
  | str s =>
    obtain ⟨rfl, hk⟩ := hv.str_of
    cases e
    refine ⟨by rw [toS_len]; exact hk.2, ?_⟩
    rw [toS_len]
    cases s with
    | nil => rfl
    | cons c t =>
      have : (((c :: t).length : Nat) : Int) ≠ 0 := by simp; omega
      simpa using this
  | tup vs =>
    obtain ⟨a, xs, rfl, h1, h2⟩ := hv.tup_of
    cases e
    refine .inr (.inl ⟨xs, h1, ?_⟩)
    cases vs with
    | nil => rw [h2.inv0]; rfl
    | cons w ws => obtain ⟨y, t, rfl, _⟩ := h2.inv; rfl
  | fro vs =>
    obtain ⟨a, xs, rfl, h1, h2⟩ := hv.fro_of
    cases e
    refine .inl ⟨xs, h1.sq, ?_⟩
    cases vs with
    | nil => rw [h2.inv0]; rfl
    | cons w ws => obtain ⟨y, t, rfl, _⟩ := h2.inv; rfl
  | loc n =>
    obtain ⟨a, h1, rfl⟩ := hv.loc_of
    have e : (seqL h n).map (fun xs => !xs.isEmpty) = some k := e
    cases q : seqL h n with
    | none => rw [q] at e; cases e
    | some vs =>
      rw [q] at e
      obtain ⟨xs, h2, h3⟩ := r.seq q h1
      refine .inl ⟨xs, h2, ?_⟩
      have e' : (!vs.isEmpty) = k := Option.some.inj e
      rw [← e']
      cases vs with
      | nil => rw [h3.inv0]; rfl
      | cons w ws => obtain ⟨y, t, rfl, _⟩ := h3.inv; rfl
  | dct ps => exact hv.dct_of.elim

/-! ### equality -/
mutual
def toD : Val → PyData
  | .non => .none
  | .bl b => .bool b
  | .int i => .int i
  | .str s => .str (toS s)
  | .tup vs => .tuple (toDs vs)
  | .fro _ => .none
  | .loc _ => .none
  | .dct _ => .none
def toDs : List Val → List PyData
  | [] => []
  | v :: vs => toD v :: toDs vs
end
theorem str_beq (a b : List Nat) : (toS a == toS b) = (a == b) := by
  rw [Bool.eq_iff_iff]
  simp only [beq_iff_eq]
  exact ⟨toS_inj, fun e => e ▸ rfl⟩
mutual
theorem eqv_toD : ∀ (a b : Val), Val.flat a = true → Val.flat b = true → PyData.eqv (toD a) (toD b) = Val.eqb a b
  | .tup a, .tup b, fa, fb => by
    unfold toD PyData.eqv Val.eqb
    exact eqv_toDs a b (by unfold Val.flat at fa; exact fa) (by unfold Val.flat at fb; exact fb)
  | .str a, .str b, _, _ => by unfold toD PyData.eqv Val.eqb; exact str_beq a b
  | .loc _, _, fa, _ => by unfold Val.flat at fa; cases fa
  | .fro _, _, fa, _ => by unfold Val.flat at fa; cases fa
  | .dct _, _, fa, _ => by unfold Val.flat at fa; cases fa
  | .non, .dct _, _, fb => by unfold Val.flat at fb; cases fb
  | .bl _, .dct _, _, fb => by unfold Val.flat at fb; cases fb
  | .int _, .dct _, _, fb => by unfold Val.flat at fb; cases fb
  | .str _, .dct _, _, fb => by unfold Val.flat at fb; cases fb
  | .tup _, .dct _, _, fb => by unfold Val.flat at fb; cases fb
  | .non, .fro _, _, fb => by unfold Val.flat at fb; cases fb
  | .bl _, .fro _, _, fb => by unfold Val.flat at fb; cases fb
  | .int _, .fro _, _, fb => by unfold Val.flat at fb; cases fb
  | .str _, .fro _, _, fb => by unfold Val.flat at fb; cases fb
  | .tup _, .fro _, _, fb => by unfold Val.flat at fb; cases fb
  | .non, .loc _, _, fb => by unfold Val.flat at fb; cases fb
  | .bl _, .loc _, _, fb => by unfold Val.flat at fb; cases fb
  | .int _, .loc _, _, fb => by unfold Val.flat at fb; cases fb
  | .str _, .loc _, _, fb => by unfold Val.flat at fb; cases fb
  | .tup _, .loc _, _, fb => by unfold Val.flat at fb; cases fb
  | .non, .non, _, _ => by unfold toD PyData.eqv Val.eqb; rfl
  | .non, .bl _, _, _ => by unfold toD PyData.eqv Val.eqb; rfl
  | .non, .int _, _, _ => by unfold toD PyData.eqv Val.eqb; rfl
  | .non, .str _, _, _ => by unfold toD PyData.eqv Val.eqb; rfl
  | .non, .tup _, _, _ => by unfold toD PyData.eqv Val.eqb; rfl
  | .bl _, .non, _, _ => by unfold toD PyData.eqv Val.eqb; rfl
  | .bl _, .bl _, _, _ => by unfold toD PyData.eqv Val.eqb; rfl
  | .bl _, .int _, _, _ => by unfold toD PyData.eqv Val.eqb; rfl
  | .bl _, .str _, _, _ => by unfold toD PyData.eqv Val.eqb; rfl
  | .bl _, .tup _, _, _ => by unfold toD PyData.eqv Val.eqb; rfl
  | .int _, .non, _, _ => by unfold toD PyData.eqv Val.eqb; rfl
  | .int _, .bl _, _, _ => by unfold toD PyData.eqv Val.eqb; rfl
  | .int _, .int _, _, _ => by unfold toD PyData.eqv Val.eqb; rfl
  | .int _, .str _, _, _ => by unfold toD PyData.eqv Val.eqb; rfl
  | .int _, .tup _, _, _ => by unfold toD PyData.eqv Val.eqb; rfl
  | .str _, .non, _, _ => by unfold toD PyData.eqv Val.eqb; rfl
  | .str _, .bl _, _, _ => by unfold toD PyData.eqv Val.eqb; rfl
  | .str _, .int _, _, _ => by unfold toD PyData.eqv Val.eqb; rfl
  | .str _, .tup _, _, _ => by unfold toD PyData.eqv Val.eqb; rfl
  | .tup _, .non, _, _ => by unfold toD PyData.eqv Val.eqb; rfl
  | .tup _, .bl _, _, _ => by unfold toD PyData.eqv Val.eqb; rfl
  | .tup _, .int _, _, _ => by unfold toD PyData.eqv Val.eqb; rfl
  | .tup _, .str _, _, _ => by unfold toD PyData.eqv Val.eqb; rfl
theorem eqv_toDs : ∀ (a b : List Val), Val.flats a = true → Val.flats b = true → PyData.eqvAll (toDs a) (toDs b) = Val.eqbs a b
  | [], [], _, _ => by unfold toDs PyData.eqvAll Val.eqbs; rfl
  | [], _ :: _, _, _ => by unfold toDs PyData.eqvAll Val.eqbs; rfl
  | _ :: _, [], _, _ => by unfold toDs PyData.eqvAll Val.eqbs; rfl
  | a :: r, b :: t, fa, fb => by
    unfold Val.flats at fa fb
    simp only [Bool.and_eq_true] at fa fb
    unfold toDs PyData.eqvAll Val.eqbs
    rw [eqv_toD a b fa.1 fb.1, eqv_toDs r t fa.2 fb.2]
end
mutual
theorem depth_toD : ∀ (a : Val), (toD a).depth = Val.depth a
  | .non => by unfold toD PyData.depth Val.depth; rfl
  | .bl _ => by unfold toD PyData.depth Val.depth; rfl
  | .int _ => by unfold toD PyData.depth Val.depth; rfl
  | .str _ => by unfold toD PyData.depth Val.depth; rfl
  | .loc _ => by unfold toD PyData.depth Val.depth; rfl
  | .fro _ => by unfold toD PyData.depth Val.depth; rfl
  | .dct _ => by unfold toD PyData.depth Val.depth; rfl
  | .tup vs => by unfold toD PyData.depth Val.depth; rw [depth_toDs vs]
theorem depth_toDs : ∀ (a : List Val), PyData.depthAll (toDs a) = Val.depths a
  | [] => by unfold toDs PyData.depthAll Val.depths; rfl
  | a :: r => by unfold toDs PyData.depthAll Val.depths; rw [depth_toD a, depth_toDs r]
end
mutual
theorem dp_of : ∀ (v : Val) (x : V), RV K H L v x → Val.flat v = true → Dp K H x (toD v) ∧ (toD v).canLay0 = true
  | .non, x, h, _ => by rw [h.non_of]; unfold toD PyData.canLay0; exact ⟨.non, rfl⟩
  | .bl b, x, h, _ => by rw [h.bl_of]; unfold toD PyData.canLay0; exact ⟨.bl b, rfl⟩
  | .int b, x, h, _ => by rw [h.int_of]; unfold toD PyData.canLay0; exact ⟨.int b, rfl⟩
  | .str s, x, h, _ => by
    obtain ⟨rfl, hk⟩ := h.str_of
    unfold toD PyData.canLay0
    refine ⟨.str _, ?_⟩
    unfold PyData.strOk
    rw [Array.all_eq_true']
    intro c hc
    have : c ∈ s := by simpa [toS] using hc
    simpa using hk.1 c this
  | .tup vs, x, h, f => by
    obtain ⟨a, xs, rfl, h1, h2⟩ := h.tup_of
    unfold Val.flat at f
    obtain ⟨h3, h4⟩ := dps_of vs xs h2 f
    unfold toD PyData.canLay0
    exact ⟨.tup h1 h3, h4⟩
  | .loc _, _, _, f => by unfold Val.flat at f; cases f
  | .fro _, _, _, f => by unfold Val.flat at f; cases f
  | .dct _, _, h, _ => h.dct_of.elim
theorem dps_of : ∀ (vs : List Val) (xs : List V), RVs K H L vs xs → Val.flats vs = true → DpAll K H xs (toDs vs) ∧ PyData.canLayAll0 (toDs vs) = true
  | [], xs, h, _ => by rw [h.inv0]; unfold toDs PyData.canLayAll0; exact ⟨.nil, rfl⟩
  | v :: vs, xs, h, f => by
    obtain ⟨y, r, rfl, h1, h2⟩ := h.inv
    unfold Val.flats at f
    simp only [Bool.and_eq_true] at f
    obtain ⟨q1, q2⟩ := dp_of v y h1 f.1
    obtain ⟨q3, q4⟩ := dps_of vs r h2 f.2
    unfold toDs PyData.canLayAll0
    exact ⟨.cons q1 q3, by rw [q2, q4]; rfl⟩
end
/-- an equality that is served, by data -/
theorem eqV_of (r : HR K H L h) {gx gy : Val} {b : Bool} (hx : RV K H L gx x) (hy : RV K H L gy y) (e : eqV? h gx gy = some b) :
    ∃ d e, Dp K H x d ∧ Dp K H y e ∧ d.canLay0 = true ∧ e.canLay0 = true ∧ d.depth ≤ 160 ∧ b = PyData.eqv d e := by
  have loc1 : ∀ {n : Nat} {z : V} {xs : List Val}, RV K H L (.loc n) z → seqL h n = some xs → Val.flats xs = true → Dp K H z (.list (toDs xs)) ∧ (PyData.list (toDs xs)).canLay0 = true := fun {n z xs} hz q f => by
    obtain ⟨a, h1, rfl⟩ := hz.loc_of
    obtain ⟨ys, h2, h3⟩ := r.seq q h1
    obtain ⟨q1, q2⟩ := dps_of xs ys h3 f
    exact ⟨.lst h2 q1, by unfold PyData.canLay0; exact q2⟩
  have dl : ∀ xs : List Val, (PyData.list (toDs xs)).depth = Val.depths xs + 1 := fun xs => by unfold PyData.depth; rw [depth_toDs]
  have neL : ∀ (xs : List Val) (v : Val), Val.flat v = true → PyData.eqv (.list (toDs xs)) (toD v) = false := fun xs v f => by
    cases v <;> first | (unfold toD PyData.eqv; rfl) | (unfold Val.flat at f; cases f)
  have neR : ∀ (xs : List Val) (v : Val), Val.flat v = true → PyData.eqv (toD v) (.list (toDs xs)) = false := fun xs v f => by
    cases v <;> first | (unfold toD PyData.eqv; rfl) | (unfold Val.flat at f; cases f)
  have notloc : ∀ {n : Nat} {v : Val}, Val.flat v = true → v = .loc n → False := fun f z => by subst z; unfold Val.flat at f; cases f
  unfold eqV? at e
  split at e
  · split at e
    · rename_i xs ys q1 q2
      split at e
      · rename_i c
        simp only [Bool.and_eq_true, decide_eq_true_eq] at c
        obtain ⟨d1, k1⟩ := loc1 hx q1 c.1.1.1
        obtain ⟨d2, k2⟩ := loc1 hy q2 c.1.1.2
        refine ⟨_, _, d1, d2, k1, k2, by rw [dl]; omega, ?_⟩
        have e' := Option.some.inj e
        rw [← e']
        unfold PyData.eqv
        exact (eqv_toDs xs ys c.1.1.1 c.1.1.2).symm
      · cases e
    · cases e
  · split at e
    · rename_i xs q1
      split at e
      · rename_i c
        simp only [Bool.and_eq_true, decide_eq_true_eq] at c
        obtain ⟨d1, k1⟩ := loc1 hx q1 c.1.1.1
        obtain ⟨d2, k2⟩ := dp_of _ _ hy c.1.1.2
        refine ⟨_, _, d1, d2, k1, k2, by rw [dl]; omega, ?_⟩
        have e' := Option.some.inj e
        rw [← e', neL _ _ c.1.1.2]
      · cases e
    · cases e
  · split at e
    · rename_i ys q1
      split at e
      · rename_i c
        simp only [Bool.and_eq_true, decide_eq_true_eq] at c
        obtain ⟨d1, k1⟩ := dp_of _ _ hx c.1.1.1
        obtain ⟨d2, k2⟩ := loc1 hy q1 c.1.1.2
        refine ⟨_, _, d1, d2, k1, k2, by rw [depth_toD]; omega, ?_⟩
        have e' := Option.some.inj e
        rw [← e', neR _ _ c.1.1.1]
      · cases e
    · cases e
  · split at e
    · rename_i c
      simp only [Bool.and_eq_true, decide_eq_true_eq] at c
      obtain ⟨d1, k1⟩ := dp_of _ _ hx c.1.1.1
      obtain ⟨d2, k2⟩ := dp_of _ _ hy c.1.1.2
      refine ⟨_, _, d1, d2, k1, k2, by rw [depth_toD]; omega, ?_⟩
      have e' := Option.some.inj e
      rw [← e', eqv_toD _ _ c.1.1.1 c.1.1.2]
    · cases e
end
end Gu
end

section
set_option Elab.async false
set_option linter.all false
set_option maxRecDepth 100000
/-! Gx6: a text times a number. -/
namespace Gu
open PySem PySem.Spec PyProof.Rows L2
theorem foldl_app {α : Type} (xs : List α) : ∀ (n : Nat) (acc : List α), (List.replicate n xs.toArray).foldl (fun x1 x2 => x1 ++ x2) acc.toArray = (acc ++ (List.replicate n xs).flatten).toArray
  | 0, acc => by simp
  | n + 1, acc => by
    rw [List.replicate_succ, List.foldl_cons, List.replicate_succ, List.flatten_cons]
    have e : acc.toArray ++ xs.toArray = (acc ++ xs).toArray := by simp
    rw [e, foldl_app xs n (acc ++ xs), List.append_assoc]
theorem op_mul_str {X : Cx} : OpR X (binaryOp .Mult) (fun x y H Q => ∃ (a : List Nat) (n : Nat), x = .str (toS a) ∧ y = .int n ∧ n ≤ 100000 ∧ a.length * n ≤ 100000 ∧ Q (.str (toS (List.replicate n a).flatten)) H) := by
  intro pins s σ H x y v u Q I rx ry h
  obtain ⟨a, n, rfl, rfl, hn, hl, q⟩ := h
  obtain ⟨t, rfl⟩ := rx
  obtain ⟨t', rfl⟩ := ry
  have hs : sizeLine = 16777216 := sizeLine_eq
  have b1 : ¬ (n : Int) < -(2 ^ 63 : Int) := Int.not_lt.mpr (Int.le_trans (by decide) (Int.natCast_nonneg n))
  have b2 : ¬ (n : Int) ≥ 2 ^ 63 := Int.not_le.mpr (Int.lt_of_le_of_lt (Int.ofNat_le.mpr hn) (by decide))
  have b3 : (decide ((n : Int) < -(2 ^ 63 : Int)) || decide ((n : Int) ≥ 2 ^ 63)) = false := by rw [Bool.or_eq_false_iff]; exact ⟨decide_eq_false b1, decide_eq_false b2⟩
  refine PySem.P.mul_str b3 (fun h1 _ => ?_) (fun _ _ => ?_) ?_
  · rw [toS_len]
    intro hc
    have h2 : (0 : Int) < n := by omega
    have h3 : ((2 : Int) ^ 63 - 1) / n < a.length := hc
    rw [Int.ediv_lt_iff_lt_mul h2] at h3
    have h4 : (a.length : Int) * n ≤ 100000 := by rw [← Int.natCast_mul]; exact Int.ofNat_le.mpr hl
    exact absurd (Int.lt_of_lt_of_le h3 h4) (by decide)
  · show decide ((toS a).length * (n : Int).toNat > sizeLine) = false
    rw [toS_len, decide_eq_false_iff_not]
    simp only [Int.toNat_natCast]
    omega
  · have fin : ∀ (tk : Tok) (k : Nat), EP X pins σ Q (.str (toS (List.replicate n a).flatten) tk) { s with toks := k } := fun tk k => ⟨.str _, H, I.tok _, ⟨_, rfl⟩, q⟩
    by_cases h0 : (n : Int) < 1
    · have e0 : n = 0 := by omega
      subst e0
      rw [if_pos h0]
      exact ⟨by decide, fin _ _⟩
    · rw [if_neg h0]
      split
      · rename_i c
        have e : (List.replicate n a).flatten = a := by
          simp only [Bool.or_eq_true, beq_iff_eq] at c
          rcases c with c | c
          · have : n = 1 := by omega
            subst this
            simp
          · rw [toS_len] at c
            have : a = [] := List.eq_nil_of_length_eq_zero c
            subst this
            simp
        rw [e] at q
        exact ⟨.str _, H, I, ⟨_, rfl⟩, q⟩
      · have e : (⟨(List.replicate (n : Int).toNat (toS a).cps).foldl (· ++ ·) #[]⟩ : Str) = toS (List.replicate n a).flatten := by
          unfold toS
          rw [Int.toNat_natCast, foldl_app a n []]
          simp
        refine ⟨?_, ?_⟩
        · rw [e]
          show (toS _).length ≤ sizeLine
          rw [toS_len, List.length_flatten, List.map_replicate, List.sum_replicate_nat]
          have : n * a.length ≤ 100000 := by rw [Nat.mul_comm]; exact hl
          omega
        · rw [e]
          exact fin _ _
end Gu
end

section
set_option Elab.async false
set_option linter.all false
set_option maxRecDepth 100000
/-! Gu4: the rules by values. -/
namespace Gu
open PySem PySem.Spec PyProof.Rows L2

def fin1 (K : PySem.W.Frag) (Q : VK) : Val → MH → Hp → List Addr → Prop := fun v _ H' L' => ∀ z, RV K H' L' v z → Q z H'
def r2 (K : PySem.W.Frag) (W : XW) (f : Val → Val → MH → R Val) : R2 := fun x y H Q =>
  ∃ gx gy h L, HR K H L h ∧ RV K H L gx x ∧ RV K H L gy y ∧ outV K W H L (f gx gy h) (fin1 K Q)
def rN (K : PySem.W.Frag) (W : XW) (f : List Val → MH → R Val) : List V → Hp → VK → Prop := fun xs H Q =>
  ∃ gs h L, HR K H L h ∧ RVs K H L gs xs ∧ outV K W H L (f gs h) (fin1 K Q)
def rM (K : PySem.W.Frag) (W : XW) (f : Val → List Val → MH → R Val) : V → List V → Hp → VK → Prop := fun x xs H Q =>
  ∃ g gs h L, HR K H L h ∧ RV K H L g x ∧ RVs K H L gs xs ∧ outV K W H L (f g gs h) (fin1 K Q)
section
variable {K : PySem.W.Frag} {W : XW} {H H' : Hp} {L L' : List Addr} {h : MH} {Q : VK}
theorem fin_v {v : Val} (r : HR K H L h) (q : outV K W H L (.ok v h) (fin1 K Q)) {z : V} (k : RV K H L v z) : Q z H := q.here r z k
theorem fin_l {vs : List Val} {xs : List V} (r : HR K H L h) (q : outV K W H L (.ok (.loc h.length) (h ++ [.lst vs])) (fin1 K Q)) (k : RVs K H L vs xs) {p : Addr} (hp : H p = none) : Q (.ref p) (upd H p (.lst xs)) :=
  q _ _ (r.add hp k) (Ext.add hp) _ (RV.newLoc r)
theorem fin_t {vs : List Val} {xs : List V} (r : HR K H L h) (q : outV K W H L (.ok (.tup vs) h) (fin1 K Q)) (k : RVs K H L vs xs) {p : Addr} (hp : H p = none) : Q (.ref p) (upd H p (.tup xs)) :=
  q _ _ (r.new hp) (Ext.new hp) _ (RV.mk_tup (.inl (.inl upd_same)) (RVs.mono (Ext.new hp) _ _ k))
/-- a list of ours -/
theorem the_lst (r : HR K H L h) {n : Nat} {vs : List Val} {x : V} (hx : RV K H L (.loc n) x) (e : h[n]? = some (.lst vs)) : ∃ a xs, x = .ref a ∧ L[n]? = some a ∧ H a = some (.lst xs) ∧ RVs K H L vs xs := by
  obtain ⟨a, h1, rfl⟩ := hx.loc_of
  obtain ⟨xs, h2, h3⟩ := r.at e h1
  exact ⟨a, xs, rfl, h1, h2, h3⟩
theorem the_seq (r : HR K H L h) {n : Nat} {vs : List Val} {x : V} (hx : RV K H L (.loc n) x) (e : seqL h n = some vs) : ∃ a xs, x = .ref a ∧ L[n]? = some a ∧ SqL K H a xs ∧ RVs K H L vs xs := by
  obtain ⟨a, h1, rfl⟩ := hx.loc_of
  obtain ⟨xs, h2, h3⟩ := r.seq e h1
  exact ⟨a, xs, rfl, h1, h2, h3⟩
end
section
variable {X : Cx} {W : XW}
theorem opr_bin (o : Operator) : OpR X (binaryOp o) (r2 X.K W (binV o)) := by
  intro pins s σ H x y v u Q I rx ry hh
  obtain ⟨gx, gy, h, L, r, hx, hy, q⟩ := hh
  unfold binV at q
  split at q
  · obtain rfl := hx.int_of; obtain rfl := hy.int_of
    exact op_add pins s σ H _ _ v u Q I rx ry ⟨_, _, rfl, rfl, fin_v r q .mk_int⟩
  · obtain rfl := hx.int_of; obtain rfl := hy.int_of
    exact op_sub pins s σ H _ _ v u Q I rx ry ⟨_, _, rfl, rfl, fin_v r q .mk_int⟩
  · obtain rfl := hx.int_of; obtain rfl := hy.int_of
    split at q
    · rename_i c
      exact op_mulW pins s σ H _ _ v u Q I rx ry ⟨_, _, rfl, rfl, c, fin_v r q .mk_int⟩
    · exact q.elim
  · obtain rfl := hx.int_of; obtain rfl := hy.int_of
    split at q
    · rename_i c
      exact op_fdivW pins s σ H _ _ v u Q I rx ry ⟨_, _, rfl, rfl, c, fin_v r q .mk_int⟩
    · exact q.elim
  · obtain rfl := hx.int_of; obtain rfl := hy.int_of
    split at q
    · rename_i c
      exact op_mod pins s σ H _ _ v u Q I rx ry ⟨_, _, rfl, rfl, c, fin_v r q .mk_int⟩
    · exact q.elim
  · obtain rfl := hx.int_of; obtain rfl := hy.int_of
    split at q
    · rename_i c
      exact op_pow pins s σ H _ _ v u Q I rx ry ⟨_, _, rfl, rfl, ⟨c.1, by have := c.2.1; omega, c.2.2⟩, fin_v r q .mk_int⟩
    · exact q.elim
  · obtain ⟨rfl, k1⟩ := hx.str_of; obtain rfl := hy.int_of
    split at q
    · rename_i a n c
      obtain ⟨m, rfl⟩ : ∃ m : Nat, n = (m : Int) := ⟨n.toNat, (Int.toNat_of_nonneg c.1).symm⟩
      rw [Int.toNat_natCast] at c q
      have c2 : m ≤ 100000 := Int.ofNat_le.mp c.2.1
      refine op_mul_str pins s σ H _ _ v u Q I rx ry ⟨_, m, rfl, rfl, c2, c.2.2, fin_v r q (.mk_str ⟨fun z hz => ?_, ?_⟩)⟩
      · obtain ⟨l, hl, hz⟩ := List.mem_flatten.mp hz
        rw [List.mem_replicate] at hl
        rw [hl.2] at hz
        exact k1.1 z hz
      · rw [List.length_flatten, List.map_replicate, List.sum_replicate_nat, Nat.mul_comm, sizeLine_eq]
        exact Nat.le_trans c.2.2 (by decide)
    · exact q.elim
  · obtain ⟨rfl, k1⟩ := hx.str_of; obtain ⟨rfl, k2⟩ := hy.str_of
    split at q
    · rename_i c
      refine op_add_str pins s σ H _ _ v u Q I rx ry ⟨_, _, rfl, rfl, by rw [toS_len, toS_len]; exact c, ?_⟩
      rw [toS_append]
      exact fin_v r q (.mk_str (k1.app k2 c))
    · exact q.elim
  · obtain ⟨a, xs, rfl, ha, k1⟩ := hx.tup_of; obtain ⟨b, ys, rfl, hb, k2⟩ := hy.tup_of
    split at q
    · rename_i c
      refine op_catA pins s σ H _ _ v u Q I rx ry ⟨a, b, xs, ys, rfl, rfl, ha, hb, by rw [← k1.length, ← k2.length]; exact c, fun e => ?_, fun _ e => ?_, fun _ _ p hp => ?_⟩
      · subst e
        have e0 := List.eq_nil_of_length_eq_zero k1.length
        subst e0
        exact fin_v r q (.mk_tup hb k2)
      · subst e
        have e0 := List.eq_nil_of_length_eq_zero k2.length
        subst e0
        rw [List.append_nil] at q
        exact fin_v r q (.mk_tup ha k1)
      · exact fin_t r q (k1.append k2) hp
    · exact q.elim
  · split at q
    · rename_i e1 e2
      obtain ⟨a, xs, rfl, ea, ha, k1⟩ := the_lst r hx e1
      obtain ⟨b, ys, rfl, eb, hb, k2⟩ := the_lst r hy e2
      split at q
      · rename_i c
        exact op_cat pins s σ H _ _ v u Q I rx ry ⟨a, b, xs, ys, rfl, rfl, ha, hb, by rw [← k1.length, ← k2.length]; exact c, fun p hp => fin_l r q (k1.append k2) hp⟩
      · exact q.elim
    · exact q.elim
  · exact q.elim
theorem opr_eq (hu : X.A.units + 164 < cLine) {g : Bool → Bool} {op : CmpOp} (ho : (op = .Eq ∧ g = id) ∨ (op = .NotEq ∧ g = not)) : OpR X (compareOp op) (r2 X.K W fun x y h => R.ofO ((eqV? h x y).map fun b => .bl (g b)) h) := by
  intro pins s σ H x y v u Q I rx ry hh
  obtain ⟨gx, gy, h, L, r, hx, hy, q⟩ := hh
  have q : outV X.K W H L (R.ofO (Option.map (fun b => Val.bl (g b)) (eqV? h gx gy)) h) (fin1 X.K Q) := q
  cases e : eqV? h gx gy with
  | none => rw [e] at q; exact q.elim
  | some b =>
    rw [e] at q
    obtain ⟨d, d2, k1, k2, c1, c2, dd, rfl⟩ := eqV_of r hx hy e
    obtain ⟨as, r1⟩ := Dp.reads I d x v k1 rx
    obtain ⟨bs, r2⟩ := Dp.reads I d2 y u k2 ry
    have hm : X.A.units + min d.depth d2.depth < cLine := by
      have := Nat.min_le_left d.depth d2.depth
      omega
    have q' : Q (.bl (g (PyData.eqv d d2))) H := fin_v r q .mk_bl
    rcases ho with ⟨rfl, rfl⟩ | ⟨rfl, rfl⟩
    · exact SeqAt.compareEq_reads r1 r2 c1 c2 hm ⟨.bl _, H, I, rfl, q'⟩
    · exact SeqAt.compareNe_reads r1 r2 c1 c2 hm ⟨.bl _, H, I, rfl, q'⟩
/-- the values of atoms -/
theorem atom_eq {K : PySem.W.Frag} {H : Hp} {L : List Addr} {a b : Val} {x y : V} (ha : RV K H L a x) (hb : RV K H L b y) (fa : a.atom = true) (fb : b.atom = true) : eqV x y = Val.eqb a b ∧ flatV x = true := by
  cases a with
  | loc _ => cases fa
  | dct _ => cases fa
  | fro _ => cases fa
  | tup _ => cases fa
  | non =>
    obtain rfl := ha.non_of
    cases b with
    | loc _ => cases fb
    | dct _ => cases fb
    | fro _ => cases fb
    | tup _ => cases fb
    | non => obtain rfl := hb.non_of; unfold Val.eqb; exact ⟨rfl, rfl⟩
    | bl _ => obtain rfl := hb.bl_of; unfold Val.eqb; exact ⟨rfl, rfl⟩
    | int _ => obtain rfl := hb.int_of; unfold Val.eqb; exact ⟨rfl, rfl⟩
    | str _ => obtain ⟨rfl, _⟩ := hb.str_of; unfold Val.eqb; exact ⟨rfl, rfl⟩
  | bl _ =>
    obtain rfl := ha.bl_of
    cases b with
    | loc _ => cases fb
    | dct _ => cases fb
    | fro _ => cases fb
    | tup _ => cases fb
    | non => obtain rfl := hb.non_of; unfold Val.eqb; exact ⟨rfl, rfl⟩
    | bl _ => obtain rfl := hb.bl_of; unfold Val.eqb; exact ⟨rfl, rfl⟩
    | int _ => obtain rfl := hb.int_of; unfold Val.eqb; exact ⟨rfl, rfl⟩
    | str _ => obtain ⟨rfl, _⟩ := hb.str_of; unfold Val.eqb; exact ⟨rfl, rfl⟩
  | int _ =>
    obtain rfl := ha.int_of
    cases b with
    | loc _ => cases fb
    | dct _ => cases fb
    | fro _ => cases fb
    | tup _ => cases fb
    | non => obtain rfl := hb.non_of; unfold Val.eqb; exact ⟨rfl, rfl⟩
    | bl _ => obtain rfl := hb.bl_of; unfold Val.eqb; exact ⟨rfl, rfl⟩
    | int _ => obtain rfl := hb.int_of; unfold Val.eqb; exact ⟨rfl, rfl⟩
    | str _ => obtain ⟨rfl, _⟩ := hb.str_of; unfold Val.eqb; exact ⟨rfl, rfl⟩
  | str _ =>
    obtain ⟨rfl, _⟩ := ha.str_of
    cases b with
    | loc _ => cases fb
    | dct _ => cases fb
    | fro _ => cases fb
    | tup _ => cases fb
    | non => obtain rfl := hb.non_of; unfold Val.eqb; exact ⟨rfl, rfl⟩
    | bl _ => obtain rfl := hb.bl_of; unfold Val.eqb; exact ⟨rfl, rfl⟩
    | int _ => obtain rfl := hb.int_of; unfold Val.eqb; exact ⟨rfl, rfl⟩
    | str _ => obtain ⟨rfl, _⟩ := hb.str_of; unfold Val.eqb; exact ⟨str_beq _ _, rfl⟩
theorem atoms_in {K : PySem.W.Frag} {H : Hp} {L : List Addr} {b : Val} {y : V} (hb : RV K H L b y) (fb : b.atom = true) : ∀ {vs : List Val} {xs : List V}, RVs K H L vs xs → vs.all Val.atom = true →
    xs.all flatV = true ∧ inV y xs = vs.any fun z => Val.eqb z b
  | [], xs, h, _ => by rw [h.inv0]; exact ⟨rfl, rfl⟩
  | v :: vs, xs, h, f => by
    obtain ⟨x, r, rfl, h1, h2⟩ := h.inv
    rw [List.all_cons, Bool.and_eq_true] at f
    obtain ⟨e1, e2⟩ := atom_eq h1 hb f.1 fb
    obtain ⟨q1, q2⟩ := atoms_in hb fb h2 f.2
    refine ⟨by rw [List.all_cons, e2, q1]; rfl, ?_⟩
    unfold inV at q2 ⊢
    rw [List.any_cons, List.any_cons, q2, e1]
theorem any_toD {x : Val} (fx : Val.flat x = true) : ∀ {ys : List Val}, Val.flats ys = true → ((toDs ys).any fun z => PyData.eqv z (toD x)) = ys.any fun z => Val.eqb z x
  | [], _ => by unfold toDs; rfl
  | y :: ys, f => by
    unfold Val.flats at f
    rw [Bool.and_eq_true] at f
    unfold toDs
    rw [List.any_cons, List.any_cons, any_toD fx f.2, eqv_toD _ _ f.1 fx]
theorem opr_in (hu : X.A.units + 164 < cLine) {g : Bool → Bool} {op : CmpOp} (ho : (op = .In ∧ g = id) ∨ (op = .NotIn ∧ g = not)) : OpR X (compareOp op) (r2 X.K W fun x y h => R.ofO ((inV? h x y).map fun b => .bl (g b)) h) := by
  intro pins s σ H x y v u Q I rx ry hh
  obtain ⟨gx, gy, h, L, r, hx, hy, q⟩ := hh
  have sq : ∀ {p : Addr} {xs : List V} {vs : List Val}, y = .ref p → (SqL X.K H p xs ∨ SqT X.K H p xs) → RVs X.K H L vs xs → gx.atom = true → vs.all Val.atom = true → Q (.bl (g (vs.any fun z => Val.eqb z gx))) H →
      wpAny (model X.prog X.w) X.A (compareOp op v u) (EP X pins σ Q) X.xe s := fun {p xs vs} ey hp hv fa fs q' => by
    obtain ⟨e1, e2⟩ := atoms_in hx fa hv fs
    have f1 := (atom_eq hx hx fa fa).2
    rw [← e2] at q'
    rcases ho with ⟨rfl, rfl⟩ | ⟨rfl, rfl⟩
    · exact op_in_seq pins s σ H x y v u Q I rx ry ⟨p, xs, ey, hp, f1, e1, q'⟩
    · exact op_notIn_seq pins s σ H x y v u Q I rx ry ⟨p, xs, ey, hp, f1, e1, q'⟩
  have room : ∀ {vs : List Val}, deepOk gx vs = true → X.A.units + 1 + min (PyData.depthAll (toDs vs)) (toD gx).depth < cLine := fun {vs} c => by
    unfold deepOk at c
    simp only [Bool.and_eq_true, decide_eq_true_eq] at c
    rw [depth_toD]
    have := Nat.min_le_right (PyData.depthAll (toDs vs)) (Val.depth gx)
    omega
  have deepT : ∀ {vs : List Val}, gy = .tup vs → deepOk gx vs = true → Q (.bl (g (vs.any fun z => Val.eqb z gx))) H → wpAny (model X.prog X.w) X.A (compareOp op v u) (EP X pins σ Q) X.xe s := fun {vs} ey c q' => by
    have rm := room c
    unfold deepOk at c
    simp only [Bool.and_eq_true, decide_eq_true_eq] at c
    subst ey
    obtain ⟨d1, k1⟩ := dp_of _ _ hx c.1.1.1
    obtain ⟨d2, k2⟩ := dp_of (.tup vs) _ hy (by unfold Val.flat; exact c.1.1.2)
    obtain ⟨as, r1⟩ := Dp.reads I _ x v d1 rx
    obtain ⟨bs, r2⟩ := Dp.reads I _ y u d2 ry
    unfold toD at r2 k2
    unfold PyData.canLay0 at k2
    rw [← any_toD c.1.1.1 c.1.1.2] at q'
    rcases ho with ⟨rfl, rfl⟩ | ⟨rfl, rfl⟩
    · exact SeqAt.in_tuple_reads r2 r1 k2 k1 rm ⟨.bl _, H, I, rfl, q'⟩
    · exact SeqAt.notIn_tuple_reads r2 r1 k2 k1 rm ⟨.bl _, H, I, rfl, q'⟩
  have deepL : ∀ {n : Nat} {vs : List Val}, gy = .loc n → seqL h n = some vs → deepOk gx vs = true → Q (.bl (g (vs.any fun z => Val.eqb z gx))) H → wpAny (model X.prog X.w) X.A (compareOp op v u) (EP X pins σ Q) X.xe s := fun {n vs} ey eq c q' => by
    have rm := room c
    unfold deepOk at c
    simp only [Bool.and_eq_true, decide_eq_true_eq] at c
    subst ey
    obtain ⟨d1, k1⟩ := dp_of _ _ hx c.1.1.1
    obtain ⟨a, h1, rfl⟩ := hy.loc_of
    obtain ⟨zs, h2, h3⟩ := r.seq eq h1
    obtain ⟨q1, q2⟩ := dps_of vs zs h3 c.1.1.2
    obtain ⟨as, r1⟩ := Dp.reads I _ x v d1 rx
    obtain ⟨bs, r2⟩ := Dp.reads I (.list (toDs vs)) _ u (.lst h2 q1) ry
    rw [← any_toD c.1.1.1 c.1.1.2] at q'
    rcases ho with ⟨rfl, rfl⟩ | ⟨rfl, rfl⟩
    · exact SeqAt.in_list_reads r2 r1 q2 k1 rm ⟨.bl _, H, I, rfl, q'⟩
    · exact SeqAt.notIn_list_reads r2 r1 q2 k1 rm ⟨.bl _, H, I, rfl, q'⟩
  have q : outV X.K W H L (R.ofO (Option.map (fun b => Val.bl (g b)) (inV? h gx gy)) h) (fin1 X.K Q) := q
  cases e : inV? h gx gy with
  | none => rw [e] at q; exact q.elim
  | some b =>
    rw [e] at q
    have q' : Q (.bl (g b)) H := fin_v r q .mk_bl
    unfold inV? at e
    split at e
    · obtain ⟨p, xs, ey, hp, hv⟩ := hy.tup_of
      split at e
      · rename_i c
        rw [Bool.and_eq_true] at c
        have e' := Option.some.inj e
        rw [← e'] at q'
        exact sq ey (.inr hp) hv c.1 c.2 q'
      · split at e
        · rename_i c
          have e' := Option.some.inj e
          rw [← e'] at q'
          exact deepT rfl c q'
        · cases e
    · split at e
      · rename_i eq
        obtain ⟨p, xs, ey, _, hp, hv⟩ := the_seq r hy eq
        split at e
        · rename_i c
          rw [Bool.and_eq_true] at c
          have e' := Option.some.inj e
          rw [← e'] at q'
          exact sq ey (.inl hp) hv c.1 c.2 q'
        · split at e
          · rename_i c
            have e' := Option.some.inj e
            rw [← e'] at q'
            exact deepL rfl eq c q'
          · cases e
      · cases e
    · split at e
      · rename_i s' _ c
        obtain ⟨rfl, _⟩ := hx.str_of
        obtain ⟨rfl, _⟩ := hy.str_of
        have e' := Option.some.inj e
        have ec : s'.contains c = decide (c ∈ (toS s').cps.toList) := by rw [toS_cps]; simp
        rw [← e', ec] at q'
        rcases ho with ⟨rfl, rfl⟩ | ⟨rfl, rfl⟩
        · exact op_in_sign pins s σ H _ _ v u Q I rx ry ⟨c, _, rfl, rfl, q'⟩
        · exact op_notIn_sign pins s σ H _ _ v u Q I rx ry ⟨c, _, rfl, rfl, q'⟩
      · cases e
    · cases e
theorem opr_cmp (hu : X.A.units + 164 < cLine) (o : CmpOp) : OpR X (compareOp o) (r2 X.K W fun x y h => R.ofO (cmpV o h x y) h) := by
  cases o with
  | Eq => exact opr_eq hu (g := id) (.inl ⟨rfl, rfl⟩)
  | NotEq => exact opr_eq hu (g := not) (.inr ⟨rfl, rfl⟩)
  | In => exact opr_in hu (g := id) (.inl ⟨rfl, rfl⟩)
  | NotIn => exact opr_in hu (g := not) (.inr ⟨rfl, rfl⟩)
  | Lt =>
    intro pins s σ H x y v u Q I rx ry hh
    obtain ⟨gx, gy, h, L, r, hx, hy, q⟩ := hh
    unfold cmpV at q
    simp only at q
    split at q
    · obtain rfl := hx.int_of; obtain rfl := hy.int_of
      exact op_lt pins s σ H _ _ v u Q I rx ry ⟨_, _, rfl, rfl, fin_v r q .mk_bl⟩
    · exact q.elim
  | LtE =>
    intro pins s σ H x y v u Q I rx ry hh
    obtain ⟨gx, gy, h, L, r, hx, hy, q⟩ := hh
    unfold cmpV at q
    simp only at q
    split at q
    · obtain rfl := hx.int_of; obtain rfl := hy.int_of
      exact op_le pins s σ H _ _ v u Q I rx ry ⟨_, _, rfl, rfl, fin_v r q .mk_bl⟩
    · exact q.elim
  | Gt =>
    intro pins s σ H x y v u Q I rx ry hh
    obtain ⟨gx, gy, h, L, r, hx, hy, q⟩ := hh
    unfold cmpV at q
    simp only at q
    split at q
    · obtain rfl := hx.int_of; obtain rfl := hy.int_of
      exact op_gt pins s σ H _ _ v u Q I rx ry ⟨_, _, rfl, rfl, fin_v r q .mk_bl⟩
    · exact q.elim
  | GtE =>
    intro pins s σ H x y v u Q I rx ry hh
    obtain ⟨gx, gy, h, L, r, hx, hy, q⟩ := hh
    unfold cmpV at q
    simp only at q
    split at q
    · obtain rfl := hx.int_of; obtain rfl := hy.int_of
      exact op_ge pins s σ H _ _ v u Q I rx ry ⟨_, _, rfl, rfl, fin_v r q .mk_bl⟩
    · exact q.elim
  | Is =>
    intro pins s σ H x y v u Q I rx ry hh
    obtain ⟨gx, gy, h, L, r, hx, hy, q⟩ := hh
    unfold cmpV at q
    simp only at q
    split at q
    · obtain rfl := hy.non_of
      refine op_isN pins s σ H _ _ v u Q I rx ry ⟨rfl, ?_⟩
      refine fin_v r q ?_
      have e : decide (x = V.non) = gx.isNon := by
        cases gx with
        | non => obtain rfl := hx.non_of; rfl
        | bl _ => obtain rfl := hx.bl_of; rfl
        | int _ => obtain rfl := hx.int_of; rfl
        | str _ => obtain ⟨rfl, _⟩ := hx.str_of; rfl
        | tup _ => obtain ⟨_, _, rfl, _⟩ := hx.tup_of; rfl
        | loc _ => obtain ⟨_, _, rfl⟩ := hx.loc_of; rfl
        | fro _ => obtain ⟨_, _, rfl, _⟩ := hx.fro_of; rfl
        | dct _ => exact hx.dct_of.elim
      rw [e]
      exact .mk_bl
    · exact q.elim
  | IsNot =>
    intro pins s σ H x y v u Q I rx ry hh
    obtain ⟨gx, gy, h, L, r, hx, hy, q⟩ := hh
    unfold cmpV at q
    simp only at q
    split at q
    · obtain rfl := hy.non_of
      refine op_notN pins s σ H _ _ v u Q I rx ry ⟨rfl, ?_⟩
      refine fin_v r q ?_
      have e : (!decide (x = V.non)) = !gx.isNon := by
        cases gx with
        | non => obtain rfl := hx.non_of; rfl
        | bl _ => obtain rfl := hx.bl_of; rfl
        | int _ => obtain rfl := hx.int_of; rfl
        | str _ => obtain ⟨rfl, _⟩ := hx.str_of; rfl
        | tup _ => obtain ⟨_, _, rfl, _⟩ := hx.tup_of; rfl
        | loc _ => obtain ⟨_, _, rfl⟩ := hx.loc_of; rfl
        | fro _ => obtain ⟨_, _, rfl, _⟩ := hx.fro_of; rfl
        | dct _ => exact hx.dct_of.elim
      rw [e]
      exact .mk_bl
    · exact q.elim
end
end Gu
end

section
set_option Elab.async false
set_option linter.all false
set_option maxRecDepth 100000
/-! Gx9: text.index(sign). -/
namespace Gu
open PySem PySem.Spec PyProof.Rows L2
theorem at_one {s : List Nat} {c i : Nat} : StrLaws.At (toS s) (toS [c]) (toS s).length i ↔ s[i]? = some c := by
  unfold StrLaws.At
  rw [StrLaws.subAt_eq, toS_len, toS_len, toS_cps, toS_cps]
  show i + 1 ≤ s.length ∧ ((s.drop i).take 1 == [c]) = true ↔ _
  rw [beq_iff_eq]
  constructor
  · rintro ⟨h1, h2⟩
    rw [List.drop_eq_getElem_cons (by omega)] at h2
    have h3 : s[i] = c := by
      have : [s[i]] = [c] := h2
      exact (List.cons.inj this).1
    rw [List.getElem?_eq_getElem (by omega), h3]
  · intro h
    obtain ⟨l, e⟩ := List.getElem?_eq_some_iff.mp h
    refine ⟨by omega, ?_⟩
    rw [List.drop_eq_getElem_cons (by omega), e]; rfl
theorem idxOf_at {c : Nat} : ∀ {s : List Nat} {i : Nat}, s[i]? = some c → (∀ k, k < i → s[k]? ≠ some c) → s.idxOf c = i
  | [], i, h, _ => by simp at h
  | x :: s, 0, h, _ => by simp at h; subst h; simp
  | x :: s, i + 1, h, n => by
    have n0 := n 0 (by omega)
    simp at n0
    rw [List.idxOf_cons]
    have : (x == c) = false := by simpa using n0
    rw [this]
    simp
    exact idxOf_at (by simpa using h) fun k hk => by simpa using n (k + 1) (by omega)
theorem occ_idx {s : List Nat} {c : Nat} (h : c ∈ s) : ∃ rest, Builtin.Str.occurrences (toS s) (toS [c]) 0 (toS s).length 1 = s.idxOf c :: rest := by
  rcases StrLaws.occ_head (toS s) (toS [c]) 1 (Nat.le_refl 1) with ⟨h0, hn⟩ | ⟨i, r, h0, hi, hn⟩
  · obtain ⟨i, hi, e⟩ := List.getElem_of_mem h
    exact absurd (at_one.mpr (by rw [List.getElem?_eq_getElem hi, e])) (hn i)
  · rw [h0, idxOf_at (at_one.mp hi) fun k hk z => hn k hk (at_one.mpr z)]
    exact ⟨r, rfl⟩
theorem mt_indexS {X : Cx} : MtR X "str.index" (fun x xs H Q => ∃ s c, x = .str (toS s) ∧ xs = [.str (toS [c])] ∧ c ∈ s ∧ Q (.int (s.idxOf c : Nat)) H) := by
  intro pins s σ H x xs v us Q I rx rs h
  obtain ⟨a, c, rfl, rfl, hc, h⟩ := h
  obtain ⟨t, rfl⟩ := rx
  cases rs with
  | cons r1 rs =>
    cases rs
    obtain ⟨u, rfl⟩ := r1
    obtain ⟨rest, e⟩ := occ_idx hc
    exact PySem.SC.index e ⟨.int (a.idxOf c : Nat), H, I.tok _, ⟨_, rfl⟩, h⟩
end Gu
end

section
set_option Elab.async false
set_option linter.all false
set_option maxRecDepth 100000
/-! Gt: xs.extend(t), t a tuple (at the machine's side). -/
namespace Gu
open PySem PySem.Spec PyProof.Rows L2
open PySem.AutoSeq1 (wpAny_loadPart')
theorem meets_extendT (l : Addr) (items : Array Value) (n : Nat) (b : Addr) (items2 : Array Value) (n2 : Nat) (dct : Option Addr) (sl : Array (Option Value)) (hs0 : ¬(!items.isEmpty && Builtin.List.listTooLong (items.size + items2.size)) = true) (hs1 : items.size ≤ sizeLine) (hs2 : items.size + items2.size ≤ sizeLine + 1) :
    Meets (Builtin.«list.extend» ⟨[.ref l, .ref b], []⟩) (fun _ R s => s.heap.get? l = some { cls := .type "list", dict := none, data := .seq items n, slots := #[] } ∧ s.heap.get? b = some { cls := .type "tuple", dict := dct, data := .seq items2 n2, slots := sl } ∧ R (.ok (.ret Value.none)) { s with heap := s.heap.update l (Obj.mapSeq fun x => x ++ items2), toks := s.toks }) :=
  .of_wp fun prog w A R s h => by
    obtain ⟨hp, g, d, tk, os⟩ := s; obtain ⟨hl, hb, h⟩ := h; have f1 := AutoSeq1.idx_int; have f2 := AutoSeq1.sub_tuple_tuple; have f3 := AutoSeq1.sub_list_list; have f4 := AutoSeq1.sub_tuple_list; have f5 := AutoSeq1.sub_list_tuple;
    have hz' : (items ++ items2).size ≤ sizeLine + 1 := by rw [Array.size_append]; exact hs2
    wp_walk using (wpAny_updateSeq hl rfl (hz := hs1) (_hz' := hz')), wpAny_loadPart' hl, wpAny_loadPart' hb; exact ⟨_, rfl, h⟩
def rExtendT (K : PySem.W.Frag) : V → List V → Hp → VK → Prop := fun x vs H Q => ∃ l b xs zs, x = .ref l ∧ vs = [.ref b] ∧ H l = some (.lst xs) ∧ SqT K H b zs ∧ xs.length + zs.length ≤ sizeLine ∧ Q .non (upd H l (.lst (xs ++ zs)))
theorem mt_extendT {X : Cx} : MtR X "list.extend" (rExtendT X.K) := by
  intro pins s σ H x vs v us Q I rx rv h
  obtain ⟨l, b, xs, zs, rfl, rfl, hH, hB, hz, q⟩ := h
  cases rx
  obtain ⟨u, rfl, ru⟩ := rv.one
  cases ru
  obtain ⟨z, its, n, r, hl, e⟩ := I.lstM hH
  obtain ⟨its2, r2, ⟨o2, e2, hc, n2, hd⟩, z2⟩ := I.tuple hB
  obtain ⟨c2, d2, dt2, sl2⟩ := o2
  replace hc : c2 = .type "tuple" := hc
  replace hd : dt2 = .seq its2.toArray n2 := hd
  subst hc hd
  have hl2 := r2.length
  have hsz : its.toArray.size + its2.toArray.size ≤ sizeLine := by rw [List.size_toArray, List.size_toArray]; omega
  have hlong : ¬ (!its.toArray.isEmpty && Builtin.List.listTooLong (its.toArray.size + its2.toArray.size)) = true := by
    rw [notLongL hsz, Bool.and_false]
    exact Bool.false_ne_true
  refine call_meets F.slot_list_extend ⟨_, e, rfl⟩ F.entry_list_extend (F.args_list_extend_2 _ _)
    (meets_extendT l its.toArray n b its2.toArray n2 d2 sl2 hlong (by rw [List.size_toArray]; omega) (by omega)) ⟨e, e2, ?_⟩
  refine ⟨.non, _, I.lset (its' := its ++ its2) hH e (by simp) (r.append r2) ?_, rfl, q⟩
  rw [List.length_append]
  omega
end Gu
end

section
set_option Elab.async false
set_option linter.all false
set_option maxRecDepth 100000
/-! Gu5: the rules by values, further. -/
namespace Gu
open PySem PySem.Spec PyProof.Rows L2
def rSl (K : PySem.W.Frag) (W : XW) : V → Option Int → Option Int → Hp → VK → Prop := fun x lo hi H Q =>
  ∃ gx h L, HR K H L h ∧ RV K H L gx x ∧ outV K W H L (slcV h gx lo hi) (fin1 K Q)
def rSet (K : PySem.W.Frag) (W : XW) : TSet := fun o i v H Q =>
  ∃ go gi gv h L, HR K H L h ∧ RV K H L go o ∧ RV K H L gi i ∧ RV K H L gv v ∧ outV K W H L (setV go gi gv h) fun _ h' H' L' => Q H'
theorem strInt_eq (i : Int) : (Str.ofString (toString i)) = toS (strInt i) := by
  rw [Str.ofString_eq_toList]
  rfl
theorem strInt_ok (i : Int) : ∀ c ∈ strInt i, c < 1114112 := by
  intro c hc
  unfold strInt at hc
  obtain ⟨d, _, rfl⟩ := List.mem_map.mp hc
  have := d.valid
  rcases this with h | ⟨_, h⟩
  · exact Nat.lt_trans h (by decide)
  · exact h
theorem cutL_all {α : Type} {vs : List α} {lo hi : Option Int} (e1 : HT.sIx vs.length 0 lo = 0) (e2 : HT.sIx vs.length vs.length hi = vs.length) : cutL vs lo hi = vs := by
  unfold cutL
  rw [e1, e2, List.drop_zero, Nat.sub_zero, List.take_length]
section
variable {X : Cx} {W : XW}
theorem ixr_idx : IxR X (r2 X.K W fun x y h => R.ofO (idxV h x y) h) := by
  intro value slice pins s σ H x y v u Q I rx ry hh hs
  obtain ⟨gx, gy, h, L, r, hx, hy, q⟩ := hh
  have q : outV X.K W H L (R.ofO (idxV h gx gy) h) (fin1 X.K Q) := q
  cases e : idxV h gx gy with
  | none => rw [e] at q; exact q.elim
  | some w =>
    rw [e] at q
    have q' : ∀ {z : V}, RV X.K H L w z → Q z H := fun k => fin_v r q k
    unfold idxV at e
    split at e
    · obtain ⟨p, xs, rfl, hp, hv⟩ := hx.tup_of
      obtain rfl := hy.int_of
      obtain ⟨z, h1, h2⟩ := hv.atI e
      exact ix_seq value slice pins s σ H _ _ v u Q I rx ry (.inr (.inl ⟨p, xs, _, z, rfl, rfl, hp, h1, q' h2⟩)) hs
    · obtain ⟨p, xs, rfl, hp, hv⟩ := hx.fro_of
      obtain rfl := hy.int_of
      obtain ⟨z, h1, h2⟩ := hv.atI e
      exact ix_seq value slice pins s σ H _ _ v u Q I rx ry (.inl ⟨p, xs, _, z, rfl, rfl, hp.sq, h1, q' h2⟩) hs
    · obtain rfl := hy.int_of
      cases eq : seqL h _ with
      | none => rw [eq] at e; cases e
      | some vs =>
        rw [eq] at e
        obtain ⟨p, xs, rfl, _, hp, hv⟩ := the_seq r hx eq
        obtain ⟨z, h1, h2⟩ := hv.atI e
        exact ix_seq value slice pins s σ H _ _ v u Q I rx ry (.inl ⟨p, xs, _, z, rfl, rfl, hp, h1, q' h2⟩) hs
    · obtain ⟨rfl, hk⟩ := hx.str_of
      obtain rfl := hy.int_of
      rename_i s' i
      cases ea : atI s' i with
      | none => rw [ea] at e; cases e
      | some c =>
        rw [ea] at e
        have e' : Val.str [c] = w := Option.some.inj e
        subst e'
        refine ix_seq value slice pins s σ H _ _ v u Q I rx ry (.inr (.inr ⟨_, _, c, rfl, rfl, by rw [toS_len]; exact hk.2, by rw [toS_cps]; exact ea, q' (.mk_str (hk.one (at_mem ea)))⟩)) hs
    · cases e
theorem slr_slc : SlR X (rSl X.K W) := by
  intro pins s σ H x v vl vu lo hi sl Q I rx hs pl pu hh
  obtain ⟨gx, h, L, r, hx, q⟩ := hh
  unfold slcV at q
  split at q
  · obtain ⟨p, xs, rfl, hp, hv⟩ := hx.tup_of
    refine sl_tupA pins s σ H _ v vl vu lo hi sl Q I rx hs pl pu ⟨p, xs, rfl, hp, fun ⟨e1, e2⟩ => ?_, fun _ p' hp' => fin_t r q (hv.cut lo hi) hp'⟩
    rw [← hv.length] at e1 e2
    rw [cutL_all e1 e2] at q
    exact fin_v r q (.mk_tup hp hv)
  · obtain ⟨p, xs, rfl, hp, hv⟩ := hx.fro_of
    exact sl_list pins s σ H _ v vl vu lo hi sl Q I rx hs pl pu ⟨p, xs, rfl, hp.sq, fun p' hp' => fin_l r q (hv.cut lo hi) hp'⟩
  · split at q
    · rename_i eq
      obtain ⟨p, xs, rfl, _, hp, hv⟩ := the_seq r hx eq
      exact sl_list pins s σ H _ v vl vu lo hi sl Q I rx hs pl pu ⟨p, xs, rfl, hp, fun p' hp' => fin_l r q (hv.cut lo hi) hp'⟩
    · exact q.elim
  · obtain ⟨rfl, hk⟩ := hx.str_of
    refine sl_str pins s σ H _ v vl vu lo hi sl Q I rx hs pl pu ⟨_, rfl, by rw [toS_len]; exact hk.2, ?_⟩
    have e : ∀ s' : List Nat, cutS (toS s') lo hi = toS (cutL s' lo hi) := fun s' => by
      unfold cutS cutL toS
      simp [Str.length]
    rw [e]
    exact fin_v r q (.mk_str (hk.cut lo hi))
  · exact q.elim
theorem unr_neg : UnR X (unaryOp .USub) (fun x H Q => ∃ gx h L, HR X.K H L h ∧ RV X.K H L gx x ∧ outV X.K W H L (match gx with | .int i => .ok (.int (-i)) h | _ => .no) (fin1 X.K Q)) := by
  intro pins s σ H x v Q I rx hh
  obtain ⟨gx, h, L, r, hx, q⟩ := hh
  split at q
  · obtain rfl := hx.int_of
    exact un_neg pins s σ H _ v Q I rx ⟨_, rfl, fin_v r q .mk_int⟩
  · exact q.elim
theorem one_of {K : PySem.W.Frag} {H : Hp} {L : List Addr} {a : Val} {xs : List V} (h : RVs K H L [a] xs) : ∃ x, xs = [x] ∧ RV K H L a x := by
  obtain ⟨x, r, rfl, h1, h2⟩ := h.inv
  rw [h2.inv0]
  exact ⟨x, rfl, h1⟩
def bltVal : BI → Value
  | .len => .builtin "len"
  | .int => .type "int"
  | .str => .type "str"
  | .list => .type "list"
  | .tuple => .type "tuple"
  | .sum => .builtin "sum"
  | .max => .builtin "max"
  | .min => .builtin "min"
  | .abs => .builtin "abs"
  | .any => .builtin "any"
  | .all => .builtin "all"
  | .sorted => .builtin "sorted"
  | .dict => .type "dict"
  | .ord => .builtin "ord"
theorem insI_perm (x : Int) : ∀ l : List Int, (insI x l).Perm (x :: l)
  | [] => .refl _
  | y :: r => by
    unfold insI
    split
    · exact .refl _
    · exact ((insI_perm x r).cons y).trans (.swap x y r)
theorem sortI_perm : ∀ l : List Int, (sortI l).Perm l
  | [] => .refl _
  | x :: r => (insI_perm x _).trans ((sortI_perm r).cons x)
theorem insI_srt (x : Int) : ∀ l : List Int, l.Pairwise (· ≤ ·) → (insI x l).Pairwise (· ≤ ·)
  | [], _ => by simp [insI]
  | y :: r, h => by
    unfold insI
    rw [List.pairwise_cons] at h
    split
    · rename_i c
      exact List.pairwise_cons.2 ⟨fun z hz => by
        rcases List.mem_cons.mp hz with rfl | hz
        · exact c
        · exact Int.le_trans c (h.1 z hz), List.pairwise_cons.2 h⟩
    · rename_i c
      refine List.pairwise_cons.2 ⟨fun z hz => ?_, insI_srt x r h.2⟩
      rcases List.mem_cons.mp ((insI_perm x r).mem_iff.mp hz) with rfl | hz
      · omega
      · exact h.1 z hz
theorem sortI_srt : ∀ l : List Int, (sortI l).Pairwise (· ≤ ·)
  | [] => .nil
  | x :: r => insI_srt x _ (sortI_srt r)
theorem sortI_eq {ys l : List Int} (p : ys.Perm l) (s : ys.Pairwise (· ≤ ·)) : ys = sortI l :=
  (p.trans (sortI_perm l).symm).eq_of_pairwise (fun a b _ _ h1 h2 => Int.le_antisymm h1 h2) s (sortI_srt l)
theorem dkeys_rd {K : PySem.W.Frag} {H : Hp} {L : List Addr} : ∀ {ps : List Val} {kvs : List (Key × V)} {ns : List Int}, RD K H L ps kvs → dkeysI ps = some ns → kvs.map (·.1) = ns.map Sum.inl
  | [], kvs, ns, h, e => by cases e; rw [show kvs = [] from h]; rfl
  | p :: r, kvs, ns, h, e => by
    obtain ⟨k, v, kk, x, s, rfl, rfl, e3, _, _, e6⟩ := h
    unfold dkeysI at e
    split at e
    · rename_i eq; cases eq
    · rename_i i w r' eq
      cases eq
      cases e3
      cases q : dkeysI r with
      | none => rw [q] at e; cases e
      | some ms =>
        rw [q] at e
        cases e
        rw [List.map_cons, List.map_cons, dkeys_rd e6 q]
    · cases e
theorem rvs_ints {K : PySem.W.Frag} {H : Hp} {L : List Addr} : ∀ ns : List Int, RVs K H L (ns.map Val.int) (ns.map V.int)
  | [] => RVs.nil
  | n :: r => RVs.cons .mk_int (rvs_ints r)
theorem ints_rv {K : PySem.W.Frag} {H : Hp} {L : List Addr} : ∀ {vs : List Val} {xs : List V} {ns : List Int}, RVs K H L vs xs → ints? vs = some ns → xs = ns.map V.int
  | [], xs, ns, hv, e => by cases e; rw [hv.inv0]; rfl
  | v :: vs, xs, ns, hv, e => by
    obtain ⟨x, r, rfl, h1, h2⟩ := hv.inv
    cases v <;> first | (cases e; done) | skip
    rename_i i
    have e' : (ints? vs).map (i :: ·) = some ns := e
    cases eq : ints? vs with
    | none => rw [eq] at e'; cases e'
    | some ms =>
      rw [eq] at e'
      cases e'
      rw [h1.int_of, ints_rv h2 eq]
      rfl
theorem bls_rv {K : PySem.W.Frag} {H : Hp} {L : List Addr} : ∀ {vs : List Val} {xs : List V} {ns : List Bool}, RVs K H L vs xs → bls? vs = some ns → xs = ns.map V.bl
  | [], xs, ns, hv, e => by cases e; rw [hv.inv0]; rfl
  | v :: vs, xs, ns, hv, e => by
    obtain ⟨x, r, rfl, h1, h2⟩ := hv.inv
    cases v <;> first | (cases e; done) | skip
    rename_i i
    have e' : (bls? vs).map (i :: ·) = some ns := e
    cases eq : bls? vs with
    | none => rw [eq] at e'; cases e'
    | some ms =>
      rw [eq] at e'
      cases e'
      rw [h1.bl_of, bls_rv h2 eq]
      rfl
theorem maxL_top : ∀ (r : List Int) (i : Int), (maxL i r ∈ i :: r) ∧ ∀ y ∈ i :: r, y ≤ maxL i r
  | [], i => by simp [maxL]
  | j :: r, i => by
    obtain ⟨h1, h2⟩ := maxL_top r (max2 i j)
    have hm : (max2 i j = i ∨ max2 i j = j) ∧ i ≤ max2 i j ∧ j ≤ max2 i j := by unfold max2; split <;> omega
    have h3 := h2 _ List.mem_cons_self
    refine ⟨?_, fun y hy => ?_⟩
    · show maxL (max2 i j) r ∈ _
      rcases List.mem_cons.mp h1 with e | e
      · rw [e]; rcases hm.1 with e | e <;> rw [e] <;> simp
      · exact List.mem_cons_of_mem _ (List.mem_cons_of_mem _ e)
    · show y ≤ maxL (max2 i j) r
      rcases List.mem_cons.mp hy with e | hy
      · omega
      · rcases List.mem_cons.mp hy with e | hy
        · omega
        · exact h2 _ (List.mem_cons_of_mem _ hy)
theorem minL_top : ∀ (r : List Int) (i : Int), (minL i r ∈ i :: r) ∧ ∀ y ∈ i :: r, minL i r ≤ y
  | [], i => by simp [minL]
  | j :: r, i => by
    obtain ⟨h1, h2⟩ := minL_top r (min2 i j)
    have hm : (min2 i j = i ∨ min2 i j = j) ∧ min2 i j ≤ i ∧ min2 i j ≤ j := by unfold min2; split <;> omega
    have h3 := h2 _ List.mem_cons_self
    refine ⟨?_, fun y hy => ?_⟩
    · show minL (min2 i j) r ∈ _
      rcases List.mem_cons.mp h1 with e | e
      · rw [e]; rcases hm.1 with e | e <;> rw [e] <;> simp
      · exact List.mem_cons_of_mem _ (List.mem_cons_of_mem _ e)
    · show minL (min2 i j) r ≤ y
      rcases List.mem_cons.mp hy with e | hy
      · omega
      · rcases List.mem_cons.mp hy with e | hy
        · omega
        · exact h2 _ (List.mem_cons_of_mem _ hy)
theorem two_of {K : PySem.W.Frag} {H : Hp} {L : List Addr} {a b : Val} {xs : List V} (h : RVs K H L [a, b] xs) : ∃ x y, xs = [x, y] ∧ RV K H L a x ∧ RV K H L b y := by
  obtain ⟨x, r, rfl, h1, h2⟩ := h.inv
  obtain ⟨y, rfl, h3⟩ := one_of h2
  exact ⟨x, y, rfl, h1, h3⟩
theorem three_of {K : PySem.W.Frag} {H : Hp} {L : List Addr} {a b c : Val} {xs : List V} (h : RVs K H L [a, b, c] xs) : ∃ x y z, xs = [x, y, z] ∧ RV K H L a x ∧ RV K H L b y ∧ RV K H L c z := by
  obtain ⟨x, r, rfl, h1, h2⟩ := h.inv
  obtain ⟨y, z, rfl, h3, h4⟩ := two_of h2
  exact ⟨x, y, z, rfl, h1, h3, h4⟩
theorem max3_eq (i j k : Int) : nuMax3 (.int i) (.int j) (.int k) = some (.int (max2 (max2 i j) k)) := by
  have e : ∀ i j : Int, nuMax2 (.int i) (.int j) = some (.int (max2 i j)) := by
    intro i j
    show some (if decide (i < j) = true then V.int j else .int i) = _
    unfold max2
    by_cases c : i < j <;> simp [c]
  show (nuMax2 (.int i) (.int j)).bind (fun m => nuMax2 m (.int k)) = _
  rw [e]
  exact e _ _
theorem min3_eq (i j k : Int) : nuMin3 (.int i) (.int j) (.int k) = some (.int (min2 (min2 i j) k)) := by
  have e : ∀ i j : Int, nuMin2 (.int i) (.int j) = some (.int (min2 i j)) := by
    intro i j
    show some (if decide (j < i) = true then V.int j else .int i) = _
    unfold min2
    by_cases c : j < i <;> simp [c]
  show (nuMin2 (.int i) (.int j)).bind (fun m => nuMin2 m (.int k)) = _
  rw [e]
  exact e _ _
theorem seq_ints {K : PySem.W.Frag} {H : Hp} {L : List Addr} {h : MH} {n : Nat} {x : V} {ns : List Int} (r : HR K H L h) (h1 : RV K H L (.loc n) x) (e : (seqL h n).bind ints? = some ns) : ∃ a, x = .ref a ∧ SqL K H a (ns.map V.int) := by
  cases eq : seqL h n with
  | none => rw [eq] at e; cases e
  | some vs =>
    rw [eq] at e
    obtain ⟨p, ys, rfl, _, hp, hv⟩ := the_seq r h1 eq
    exact ⟨p, rfl, by rw [← ints_rv hv e]; exact hp⟩
theorem seq_bls {K : PySem.W.Frag} {H : Hp} {L : List Addr} {h : MH} {n : Nat} {x : V} {ns : List Bool} (r : HR K H L h) (h1 : RV K H L (.loc n) x) (e : (seqL h n).bind bls? = some ns) : ∃ a, x = .ref a ∧ SqL K H a (ns.map V.bl) := by
  cases eq : seqL h n with
  | none => rw [eq] at e; cases e
  | some vs =>
    rw [eq] at e
    obtain ⟨p, ys, rfl, _, hp, hv⟩ := the_seq r h1 eq
    exact ⟨p, rfl, by rw [← bls_rv hv e]; exact hp⟩
theorem callr_blt (hc : X.calm = true) (b : BI) : CallR X (bltVal b) (rN X.K W (biV b)) := by
  intro pins s σ H xs us Q I rs hh
  obtain ⟨gs, h, L, r, hx, q⟩ := hh
  unfold biV at q
  split at q
  · obtain ⟨x, rfl, h1⟩ := one_of hx
    obtain ⟨rfl, hk⟩ := h1.str_of
    refine call_len_str pins s σ H _ us Q I rs ⟨_, rfl, by rw [toS_len]; exact hk.2, ?_⟩
    rw [toS_len]
    exact fin_v r q .mk_int
  · obtain ⟨x, rfl, h1⟩ := one_of hx
    obtain ⟨p, ys, rfl, hp, hv⟩ := h1.tup_of
    refine call_len_seq pins s σ H _ us Q I rs ⟨p, ys, rfl, .inr hp, ?_⟩
    rw [← hv.length]
    exact fin_v r q .mk_int
  · obtain ⟨x, rfl, h1⟩ := one_of hx
    obtain ⟨p, ys, rfl, hp, hv⟩ := h1.fro_of
    refine call_len_seq pins s σ H _ us Q I rs ⟨p, ys, rfl, .inl hp.sq, ?_⟩
    rw [← hv.length]
    exact fin_v r q .mk_int
  · obtain ⟨x, rfl, h1⟩ := one_of hx
    split at q
    · rename_i eq
      obtain ⟨p, ys, rfl, _, hp, hv⟩ := the_lst r h1 eq
      refine call_len_seq pins s σ H _ us Q I rs ⟨p, ys, rfl, .inl (SqL.of hp), ?_⟩
      rw [← hv.length]
      exact fin_v r q .mk_int
    · rename_i eq
      obtain ⟨p, e1, rfl⟩ := h1.loc_of
      obtain ⟨kvs, hp, hd⟩ := r.at eq e1
      refine L2.call_lenD pins s σ H _ us Q I rs ⟨p, kvs, rfl, hp, ?_⟩
      rw [← hd.length]
      exact fin_v r q .mk_int
    · exact q.elim
  · obtain ⟨x, rfl, h1⟩ := one_of hx
    obtain rfl := h1.int_of
    exact call_int1 pins s σ H _ us Q I rs (.inl ⟨_, rfl, fin_v r q .mk_int⟩)
  · obtain ⟨x, rfl, h1⟩ := one_of hx
    obtain rfl := h1.int_of
    split at q
    · rename_i c
      refine call_str_int pins s σ H _ us Q I rs ⟨_, rfl, c.1, ?_⟩
      rw [show (Str.ofString (toString _)) = _ from strInt_eq _]
      exact fin_v r q (.mk_str ⟨strInt_ok _, c.2⟩)
    · exact q.elim
  · obtain ⟨x, rfl, h1⟩ := one_of hx
    obtain rfl := h1.bl_of
    exact call_int1 pins s σ H _ us Q I rs (.inr ⟨_, rfl, fin_v r q .mk_int⟩)
  · obtain ⟨x, rfl, h1⟩ := one_of hx
    split at q
    · rename_i eq
      obtain ⟨p, ys, rfl, _, hp, hv⟩ := the_seq r h1 eq
      exact call_list_of pins s σ H _ us Q I rs ⟨p, ys, rfl, .inl hp, fun l hl => fin_l r q hv hl⟩
    · exact q.elim
  · obtain ⟨x, rfl, h1⟩ := one_of hx
    obtain ⟨p, ys, rfl, hp, hv⟩ := h1.tup_of
    exact call_list_of pins s σ H _ us Q I rs ⟨p, ys, rfl, .inr hp, fun l hl => fin_l r q hv hl⟩
  · obtain ⟨x, rfl, h1⟩ := one_of hx
    obtain ⟨p, ys, rfl, hp, hv⟩ := h1.fro_of
    exact call_list_of pins s σ H _ us Q I rs ⟨p, ys, rfl, .inl hp.sq, fun l hl => fin_l r q hv hl⟩
  · obtain ⟨x, rfl, h1⟩ := one_of hx
    split at q
    · rename_i eq
      obtain ⟨p, ys, rfl, _, hp, hv⟩ := the_seq r h1 eq
      exact call_tuple_of pins s σ H _ us Q I rs ⟨p, ys, rfl, .inl ⟨hp, fun l hl => fin_t r q hv hl⟩⟩
    · exact q.elim
  · obtain ⟨x, rfl, h1⟩ := one_of hx
    obtain ⟨p, ys, rfl, hp, hv⟩ := h1.tup_of
    exact call_tuple_of pins s σ H _ us Q I rs ⟨p, ys, rfl, .inr ⟨hp, fin_v r q (.mk_tup hp hv)⟩⟩
  · obtain ⟨x, rfl, h1⟩ := one_of hx
    split at q
    · rename_i eq
      obtain ⟨p, rfl, hp⟩ := seq_ints r h1 eq
      exact cr_sum hc pins s σ H _ us Q I rs ⟨p, _, rfl, hp, fin_v r q .mk_int⟩
    · exact q.elim
  · obtain ⟨x, y, rfl, h1, h2⟩ := two_of hx
    obtain rfl := h1.int_of
    obtain rfl := h2.int_of
    exact call_max2 hc pins s σ H _ us Q I rs ⟨_, _, rfl, fin_v r q .mk_int⟩
  · obtain ⟨x, y, z, rfl, h1, h2, h3⟩ := three_of hx
    obtain rfl := h1.int_of
    obtain rfl := h2.int_of
    obtain rfl := h3.int_of
    exact call_max3Nu hc pins s σ H _ us Q I rs ⟨_, _, _, _, rfl, max3_eq _ _ _, fin_v r q .mk_int⟩
  · obtain ⟨x, rfl, h1⟩ := one_of hx
    split at q
    · rename_i i rest eq
      obtain ⟨p, rfl, hp⟩ := seq_ints r h1 eq
      refine cr_max hc pins s σ H _ us Q I rs ⟨p, _, rfl, hp, by simp, fun m hm hle => ?_⟩
      have t := maxL_top rest i
      have e : m = maxL i rest := Int.le_antisymm (t.2 _ hm) (hle _ t.1)
      rw [e]
      exact fin_v r q .mk_int
    · exact q.elim
  · obtain ⟨x, y, rfl, h1, h2⟩ := two_of hx
    obtain rfl := h1.int_of
    obtain rfl := h2.int_of
    exact call_min2 hc pins s σ H _ us Q I rs ⟨_, _, rfl, fin_v r q .mk_int⟩
  · obtain ⟨x, y, z, rfl, h1, h2, h3⟩ := three_of hx
    obtain rfl := h1.int_of
    obtain rfl := h2.int_of
    obtain rfl := h3.int_of
    exact call_min3Nu hc pins s σ H _ us Q I rs ⟨_, _, _, _, rfl, min3_eq _ _ _, fin_v r q .mk_int⟩
  · obtain ⟨x, rfl, h1⟩ := one_of hx
    split at q
    · rename_i i rest eq
      obtain ⟨p, rfl, hp⟩ := seq_ints r h1 eq
      refine cr_min hc pins s σ H _ us Q I rs ⟨p, _, rfl, hp, by simp, fun m hm hle => ?_⟩
      have t := minL_top rest i
      have e : m = minL i rest := Int.le_antisymm (hle _ t.1) (t.2 _ hm)
      rw [e]
      exact fin_v r q .mk_int
    · exact q.elim
  · obtain ⟨x, rfl, h1⟩ := one_of hx
    obtain rfl := h1.int_of
    exact call_abs pins s σ H _ us Q I rs ⟨_, rfl, fin_v r q .mk_int⟩
  · obtain ⟨x, rfl, h1⟩ := one_of hx
    split at q
    · rename_i eq
      obtain ⟨p, rfl, hp⟩ := seq_bls r h1 eq
      exact cr_any hc pins s σ H _ us Q I rs ⟨p, _, rfl, hp, fin_v r q .mk_bl⟩
    · exact q.elim
  · obtain ⟨x, rfl, h1⟩ := one_of hx
    split at q
    · rename_i eq
      obtain ⟨p, rfl, hp⟩ := seq_bls r h1 eq
      exact cr_all hc pins s σ H _ us Q I rs ⟨p, _, rfl, hp, fin_v r q .mk_bl⟩
    · exact q.elim
  · obtain ⟨x, rfl, h1⟩ := one_of hx
    split at q
    · rename_i eq
      split at q
      · rename_i ei
        obtain ⟨p, ys, rfl, _, hp, hv⟩ := the_lst r h1 eq
        have ey := ints_rv hv ei
        subst ey
        refine cr_sortedI pins s σ H _ us Q I rs ⟨p, _, rfl, SqL.of hp, fun ns' l hperm hs hl => ?_⟩
        rw [sortI_eq hperm hs]
        exact fin_l r q (rvs_ints _) hl
      · exact q.elim
    · rename_i eq
      split at q
      · rename_i ei
        split at q
        · rename_i c
          obtain ⟨p, e1, rfl⟩ := h1.loc_of
          obtain ⟨kvs, hp, hd⟩ := r.at eq e1
          refine call_sortedDI hc pins s σ H _ us Q I rs ⟨p, kvs, _, rfl, .of hp, dkeys_rd hd ei, c, fun ns' l hperm hs hl => ?_⟩
          rw [sortI_eq hperm hs]
          exact fin_l r q (rvs_ints _) hl
        · exact q.elim
      · exact q.elim
    · exact q.elim
  · obtain ⟨x, rfl, h1⟩ := one_of hx
    split at q
    · rename_i eq
      obtain ⟨p, e1, rfl⟩ := h1.loc_of
      obtain ⟨kvs, hp, hd⟩ := r.at eq e1
      refine L2.call_dictD pins s σ H _ us Q I rs ⟨p, kvs, rfl, .of hp, fun a ha => ?_⟩
      exact q _ _ (r.addO ha ⟨kvs, upd_same, RD.mono (Ext.add ha) hd⟩) (Ext.add ha) _ (RV.newLoc r)
    · exact q.elim
  · obtain ⟨x, rfl, h1⟩ := one_of hx
    obtain ⟨rfl, hk⟩ := h1.str_of
    exact call_ord pins s σ H _ us Q I rs ⟨_, rfl, by rw [toS_len]; rfl, fin_v r q .mk_int⟩
  · obtain ⟨x, rfl, h1⟩ := one_of hx
    obtain ⟨rfl, hk⟩ := h1.str_of
    exact SkE.call_str_str pins s σ H _ us Q I rs ⟨_, rfl, fin_v r q (.mk_str hk)⟩
  · exact q.elim
/-! ### isinstance -/
def tkName : TK → String
  | .int => "int"
  | .bool => "bool"
  | .str => "str"
  | .list => "list"
  | .tuple => "tuple"
theorem isi_of {K : PySem.W.Frag} {H : Hp} {L : List Addr} {h : MH} (r : HR K H L h) {v : Val} {x : V} {b : Bool} (t : TK) (hv : RV K H L v x) (e : isiV t h v = some b) : ∃ a, TyX K H x (.type a) ∧ kitB a (tkName t) = some b := by
  cases v with
  | non => obtain rfl := hv.non_of; cases e; exact ⟨_, .base .non, by cases t <;> decide +kernel⟩
  | bl _ => obtain rfl := hv.bl_of; cases e; exact ⟨_, .base (.bl _), by cases t <;> decide +kernel⟩
  | int _ => obtain rfl := hv.int_of; cases e; exact ⟨_, .base (.int _), by cases t <;> decide +kernel⟩
  | str _ => obtain ⟨rfl, _⟩ := hv.str_of; cases e; exact ⟨_, .base (.str _), by cases t <;> decide +kernel⟩
  | tup vs =>
    obtain ⟨p, xs, rfl, hp, _⟩ := hv.tup_of
    cases e
    refine ⟨"tuple", ?_, by cases t <;> decide +kernel⟩
    rcases hp with (hp | ⟨o, hp⟩) | ⟨o, its, n, hk, hc, _⟩
    · exact .base (.tup hp)
    · exact .fTuple hp
    · exact .kTuple hk hc
  | fro vs =>
    obtain ⟨p, xs, rfl, hp, _⟩ := hv.fro_of
    cases e
    refine ⟨"list", ?_, by cases t <;> decide +kernel⟩
    rcases hp with ⟨o, hp⟩ | ⟨o, its, n, hk, hc, _⟩
    · exact .base (.frz hp)
    · exact .kList hk hc
  | loc n =>
    have e : (match h[n]? with | some (.lst _) => some (decide (t = .list)) | _ => none) = some b := e
    cases eq : h[n]? with
    | none => rw [eq] at e; cases e
    | some o =>
      rw [eq] at e
      cases o with
      | lst vs =>
        obtain ⟨p, xs, rfl, _, hp, _⟩ := the_lst r hv eq
        cases e
        exact ⟨"list", .base (.lst hp), by cases t <;> decide +kernel⟩
      | dct _ => cases e
      | obj _ _ => cases e
  | dct _ => exact hv.dct_of.elim
/-! ### methods -/
def mtId : MI → String
  | .append => "list.append"
  | .pop => "list.pop"
  | .join => "str.join"
  | .split => "str.split"
  | .upper => "str.upper"
  | .index => "str.index"
  | .lidx => "list.index"
  | .extend => "list.extend"
theorem set_same {h : MH} {n : Nat} {vs : List Val} : (h.set n (.lst vs)).length = h.length := List.length_set
theorem fin_w {K : PySem.W.Frag} {H : Hp} {L : List Addr} {h : MH} {Q : VK} {n : Nat} {p : Addr} {zs xs : List V} {vs : List Val} {w : Val} {z : V} (r : HR K H L h) (q : outV K W H L (.ok w (h.set n (.lst vs))) (fin1 K Q))
    (ep : L[n]? = some p) (hp : H p = some (.lst zs)) (k : RVs K H L vs xs) (kw : RV K H L w z) : Q z (upd H p (.lst xs)) :=
  q _ _ (r.write ep hp k) (Ext.write hp) z (RV.mono (Ext.write hp) _ _ kw)
theorem strs_of {K : PySem.W.Frag} {H : Hp} {L : List Addr} : ∀ {vs : List Val} {xs : List V} {ss : List (List Nat)}, RVs K H L vs xs → strs? vs = some ss → xs = (ss.map toS).map V.str ∧ ∀ s ∈ ss, okS s
  | [], xs, ss, h, e => by
    cases e
    rw [h.inv0]
    exact ⟨rfl, fun s hs => nomatch hs⟩
  | v :: vs, xs, ss, h, e => by
    obtain ⟨x, t, rfl, h1, h2⟩ := h.inv
    cases v with
    | str s =>
      cases e' : strs? vs with
      | none => simp [strs?, e'] at e
      | some ss' =>
        simp [strs?, e'] at e
        subst e
        obtain ⟨q1, q2⟩ := strs_of h2 e'
        obtain ⟨rfl, k⟩ := h1.str_of
        refine ⟨by rw [q1]; rfl, fun s hs => ?_⟩
        rcases List.mem_cons.mp hs with rfl | hs
        · exact k
        · exact q2 s hs
    | _ => simp [strs?] at e
theorem joinS_eq1 (sep : List Nat) : ∀ ss : List (List Nat), (Str.join (toS sep) (ss.map toS)) = toS (joinS sep ss)
  | [] => rfl
  | [_] => rfl
  | x :: y :: r => by
    show toS x ++ toS sep ++ Str.join (toS sep) ((y :: r).map toS) = toS (x ++ sep ++ joinS sep (y :: r))
    rw [joinS_eq1 sep (y :: r), toS_append, toS_append]
theorem joinS_eq (sep : List Nat) (ss : List (List Nat)) : (Txt.join (toS sep) (ss.map toS)) = toS (joinS sep ss) := (TL.join_eq _ _).trans (joinS_eq1 sep ss)
theorem joinS_ok {sep : List Nat} (hs : okS sep) : ∀ {ss : List (List Nat)}, (∀ s ∈ ss, okS s) → (∀ c ∈ joinS sep ss, c < 1114112) ∧ (joinS sep ss).length ≤ (ss.map (·.length)).sum + ss.length * sep.length
  | [], _ => ⟨fun c hc => (nomatch hc), Nat.zero_le _⟩
  | [x], h => ⟨(h x (by simp)).1, by simp [joinS]⟩
  | x :: y :: r, h => by
    obtain ⟨q1, q2⟩ := joinS_ok hs (ss := y :: r) fun s hs => h s (List.mem_cons_of_mem _ hs)
    refine ⟨fun c hc => ?_, ?_⟩
    · have hc : c ∈ x ++ sep ++ joinS sep (y :: r) := hc
      rcases List.mem_append.mp hc with hc | hc
      · rcases List.mem_append.mp hc with hc | hc
        · exact (h x (by simp)).1 c hc
        · exact hs.1 c hc
      · exact q1 c hc
    · show (x ++ sep ++ joinS sep (y :: r)).length ≤ _
      rw [List.length_append, List.length_append]
      rw [List.map_cons, List.sum_cons, List.length_cons (a := x)]
      have e : ((y :: r).length + 1) * sep.length = (y :: r).length * sep.length + sep.length := by rw [Nat.add_mul, Nat.one_mul]
      rw [e]
      omega
theorem spl_one (c : Nat) : ∀ (s acc : List Nat), TL.spl [c] 0 acc s = splitC c acc s
  | [], acc => rfl
  | d :: r, acc => by
    by_cases hd : d = c
    · subst hd
      rw [TL.spl_hit (by unfold TL.pre; simp)]
      show acc :: TL.spl [d] 0 [] r = splitC d acc (d :: r)
      rw [spl_one d r [], splitC, if_pos rfl]
    · rw [TL.spl_miss (by unfold TL.pre; simp [hd]), spl_one c r]
      rw [splitC, if_neg hd]
theorem split_eq {c : Nat} (s : List Nat) (hc : c < 256) : Txt.split (toS s) (toS [c]) = (splitC c [] s).map toS := by
  have hk : ¬ Builtin.Str.strKind (toS s) < Builtin.Str.strKind (toS [c]) := by
    have e : Builtin.Str.strKind (toS [c]) = 1 := by
      unfold Builtin.Str.strKind toS
      simp [hc]
    rw [e]
    unfold Builtin.Str.strKind
    split
    · decide
    · split <;> decide
  have e := TL.split_spl (toS s) (toS [c]) (by unfold TL.tl toS; simp) hk
  have e2 : (Txt.split (toS s) (toS [c])).map TL.tl = splitC c [] s := by
    rw [e, ← spl_one c s []]
    unfold TL.tl
    rw [toS_cps, toS_cps]
  rw [← e2, List.map_map]
  have : (toS ∘ TL.tl) = id := by
    funext x
    unfold TL.tl toS
    simp
  rw [this, List.map_id]
theorem splitC_ok (c : Nat) : ∀ (s acc : List Nat), (∀ d ∈ acc, d < 1114112) → (∀ d ∈ s, d < 1114112) → ∀ t ∈ splitC c acc s, (∀ d ∈ t, d < 1114112) ∧ t.length ≤ acc.length + s.length
  | [], acc, ha, _, t, ht => by
    have e : t = acc := by simpa [splitC] using ht
    subst e
    exact ⟨ha, Nat.le_add_right _ _⟩
  | d :: r, acc, ha, hs, t, ht => by
    rw [splitC] at ht
    split at ht
    · rcases List.mem_cons.mp ht with rfl | ht
      · exact ⟨ha, Nat.le_add_right _ _⟩
      · obtain ⟨q1, q2⟩ := splitC_ok c r [] (fun _ h => nomatch h) (fun e he => hs e (List.mem_cons_of_mem _ he)) t ht
        exact ⟨q1, by simp only [List.length_cons, List.length_nil] at *; omega⟩
    · obtain ⟨q1, q2⟩ := splitC_ok c r (acc ++ [d]) (fun e he => by
        rcases List.mem_append.mp he with he | he
        · exact ha e he
        · have e2 : e = d := by simpa using he
          rw [e2]; exact hs d (by simp)) (fun e he => hs e (List.mem_cons_of_mem _ he)) t ht
      exact ⟨q1, by simp only [List.length_cons, List.length_append, List.length_nil] at *; omega⟩
theorem strs_rv {K : PySem.W.Frag} {H : Hp} {L : List Addr} : ∀ {ss : List (List Nat)}, (∀ s ∈ ss, okS s) → RVs K H L (ss.map Val.str) ((ss.map toS).map V.str)
  | [], _ => RVs.nil
  | s :: r, h => RVs.cons (.mk_str (h s (by simp))) (strs_rv fun t ht => h t (List.mem_cons_of_mem _ ht))
theorem upper_tab : ∀ i : _root_.Fin 26, Txt.upper (toS [97 + i.val]) = toS [65 + i.val] := by decide +kernel
theorem upper_eq {c : Nat} (h : 97 ≤ c ∧ c ≤ 122) : Txt.upper (toS [c]) = toS [c - 32] := by
  have q := upper_tab ⟨c - 97, by omega⟩
  have e1 : 97 + (c - 97) = c := by omega
  have e2 : 65 + (c - 97) = c - 32 := by omega
  simp only at q
  rw [e1, e2] at q
  exact q
theorem idxI_at {c : Int} : ∀ {s : List Int}, c ∈ s → s[s.idxOf c]? = some c ∧ ∀ (m : Nat) (z : Int), m < s.idxOf c → s[m]? = some z → z ≠ c
  | [], h => by cases h
  | x :: s, h => by
    rw [List.idxOf_cons]
    by_cases e : x = c
    · subst e
      simp
    · have e2 : (x == c) = false := by simpa using e
      rw [e2]
      have hm : c ∈ s := by rcases List.mem_cons.mp h with h | h; exact absurd h.symm e; exact h
      obtain ⟨q1, q2⟩ := idxI_at hm
      refine ⟨by simpa using q1, fun m z hm2 hz => ?_⟩
      cases m with
      | zero => simp at hz; rw [← hz]; exact e
      | succ m => exact q2 m z (by simpa using hm2) (by simpa using hz)
theorem lidx_of {K : PySem.W.Frag} {H : Hp} {a : Addr} {ns : List Int} {i : Int} {Q : VK} (hp : SqL K H a (ns.map V.int)) (c : i ∈ ns) (q : Q (.int (ns.idxOf i : Nat)) H) : rIndex K (.ref a) [.int i] H Q := by
  obtain ⟨q1, q2⟩ := idxI_at c
  refine ⟨a, ns.map V.int, .int i, ns.idxOf i, .int i, rfl, rfl, hp, rfl, ?_, by rw [List.getElem?_map, q1]; rfl, by simp [eqV], fun m z hm hz => ?_, q⟩
  · rw [List.all_eq_true]
    intro x hx
    obtain ⟨y, _, rfl⟩ := List.mem_map.mp hx
    rfl
  · rw [List.getElem?_map] at hz
    cases e : ns[m]? with
    | none => rw [e] at hz; cases hz
    | some y =>
      rw [e] at hz
      cases hz
      have := q2 m y hm e
      simp [eqV, this]
theorem mtr_mt (m : MI) : MtR X (mtId m) (rM X.K W (mtV m)) := by
  intro pins s σ H x xs v us Q I rx rs hh
  obtain ⟨g, gs, h, L, r, hx, hs, q⟩ := hh
  unfold mtV at q
  split at q
  · obtain ⟨z, rfl, hz⟩ := one_of hs
    split at q
    · rename_i eq
      obtain ⟨p, ys, rfl, ep, hp, hv⟩ := the_lst r hx eq
      split at q
      · rename_i c
        exact mt_append pins s σ H _ _ v us Q I rx rs ⟨p, ys, z, rfl, rfl, hp, by rw [← hv.length]; exact c, fin_w r q ep hp (hv.append (RVs.cons hz RVs.nil)) .mk_non⟩
      · exact q.elim
    · exact q.elim
  · obtain rfl := hs.inv0
    split at q
    · rename_i vs eq
      obtain ⟨p, ys, rfl, ep, hp, hv⟩ := the_lst r hx eq
      split at q
      · rename_i w ew
        rw [List.getLast?_eq_getElem?] at ew
        obtain ⟨z, ez, hz⟩ := hv.get ew
        exact mt_pop pins s σ H _ _ v us Q I rx rs ⟨p, ys, z, rfl, rfl, hp, by rw [← hv.length]; exact ez, fin_w r q ep hp hv.dropLast hz⟩
      · exact q.elim
    · exact q.elim
  · obtain ⟨z, rfl, hz⟩ := one_of hs
    split at q
    · rename_i e1 e2
      obtain ⟨p, ys, rfl, ep, hp, hv⟩ := the_lst r hx e1
      obtain ⟨p2, zs, rfl, _, hp2, hv2⟩ := the_lst r hz e2
      split at q
      · rename_i c
        exact mt_extend pins s σ H _ _ v us Q I rx rs ⟨p, p2, ys, zs, rfl, rfl, hp, hp2, by rw [← hv.length, ← hv2.length]; exact c, fin_w r q ep hp (hv.append hv2) .mk_non⟩
      · exact q.elim
    · exact q.elim
  · obtain ⟨z, rfl, hz⟩ := one_of hs
    split at q
    · rename_i e1
      obtain ⟨p, ys, rfl, ep, hp, hv⟩ := the_lst r hx e1
      obtain ⟨p2, zs, rfl, hp2, hv2⟩ := hz.tup_of
      split at q
      · rename_i c
        exact mt_extendT pins s σ H _ _ v us Q I rx rs ⟨p, p2, ys, zs, rfl, rfl, hp, hp2, by rw [← hv.length, ← hv2.length]; exact c, fin_w r q ep hp (hv.append hv2) .mk_non⟩
      · exact q.elim
    · exact q.elim
  · obtain ⟨rfl, k⟩ := hx.str_of
    obtain ⟨z, rfl, hz⟩ := one_of hs
    split at q
    · rename_i eq
      obtain ⟨p, ys, rfl, _, hp, hv⟩ := the_seq r hz eq
      split at q
      · rename_i ss es
        obtain ⟨rfl, ks⟩ := strs_of hv es
        split at q
        · rename_i c
          have hlen : ((ss.map toS).map fun x => x.length) = ss.map fun x => x.length := by
            rw [List.map_map]
            exact List.map_congr_left fun x _ => toS_len x
          refine mt_join pins s σ H _ _ v us Q I rx rs ⟨_, p, ss.map toS, rfl, rfl, .inl hp, by rw [hlen, List.length_map, toS_len]; exact c, ?_⟩
          rw [joinS_eq]
          obtain ⟨q1, q2⟩ := joinS_ok k ks
          exact fin_v r q (.mk_str ⟨q1, Nat.le_trans q2 c⟩)
        · exact q.elim
      · exact q.elim
    · exact q.elim
  · obtain ⟨rfl, k⟩ := hx.str_of
    obtain ⟨z, rfl, hz⟩ := one_of hs
    obtain ⟨rfl, k2⟩ := hz.str_of
    split at q
    · rename_i c
      refine mt_split pins s σ H _ _ v us Q I rx rs ⟨_, _, rfl, rfl, by rw [toS_len]; rfl, by rw [toS_len]; exact c.1, fun p hp => ?_⟩
      rw [split_eq _ c.2]
      refine fin_l r q (strs_rv fun t ht => ?_) hp
      obtain ⟨q1, q2⟩ := splitC_ok _ _ [] (fun _ h => nomatch h) k.1 t ht
      exact ⟨q1, Nat.le_trans q2 (by have := k.2; simp only [List.length_nil]; omega)⟩
    · exact q.elim
  · obtain ⟨rfl, hk⟩ := hx.str_of
    obtain rfl := hs.inv0
    split at q
    · rename_i c
      refine mt_upper pins s σ H _ _ v us Q I rx rs ⟨_, rfl, rfl, by rw [toS_len]; exact (by decide : 1 ≤ 5592405), ?_⟩
      rw [upper_eq c]
      exact fin_v r q (.mk_str ⟨fun z hz => by rw [List.mem_singleton.mp hz]; omega, by rw [sizeLine_eq]; exact (by decide : 1 ≤ 16777216)⟩)
    · exact q.elim
  · obtain ⟨rfl, hk⟩ := hx.str_of
    obtain ⟨z, rfl, hz⟩ := one_of hs
    obtain ⟨rfl, k2⟩ := hz.str_of
    split at q
    · rename_i c
      exact mt_indexS pins s σ H _ _ v us Q I rx rs ⟨_, _, rfl, rfl, c, fin_v r q .mk_int⟩
    · exact q.elim
  · obtain ⟨z, rfl, hz⟩ := one_of hs
    obtain rfl := hz.int_of
    split at q
    · rename_i eq
      obtain ⟨p, rfl, hp⟩ := seq_ints r hx eq
      split at q
      · rename_i c
        exact mt_index pins s σ H _ _ v us Q I rx rs (lidx_of hp c (fin_v r q .mk_int))
      · exact q.elim
    · exact q.elim
  · obtain ⟨rfl, k⟩ := hx.str_of
    obtain ⟨z, rfl, hz⟩ := one_of hs
    obtain ⟨p, ys, rfl, hp, hv⟩ := hz.tup_of
    split at q
    · rename_i ss es
      obtain ⟨rfl, ks⟩ := strs_of hv es
      split at q
      · rename_i c
        have hlen : ((ss.map toS).map fun x => x.length) = ss.map fun x => x.length := by
          rw [List.map_map]
          exact List.map_congr_left fun x _ => toS_len x
        refine mt_join pins s σ H _ _ v us Q I rx rs ⟨_, p, ss.map toS, rfl, rfl, .inr hp, by rw [hlen, List.length_map, toS_len]; exact c, ?_⟩
        rw [joinS_eq]
        obtain ⟨q1, q2⟩ := joinS_ok k ks
        exact fin_v r q (.mk_str ⟨q1, Nat.le_trans q2 c⟩)
      · exact q.elim
    · exact q.elim
  · exact q.elim
theorem pset_set : PSet X (rSet X.K W) := by
  intro pins s σ H o i v ov iv u Q I ro ri rv hh
  obtain ⟨go, gi, gv, h, L, r, ho, hi, hv, q⟩ := hh
  unfold setV at q
  split at q
  · obtain rfl := hi.int_of
    split at q
    · rename_i eq
      obtain ⟨p, ys, rfl, ep, hp, hs⟩ := the_lst r ho eq
      split at q
      · rename_i j ej
        refine set_list pins s σ H _ _ v ov iv u Q I ro ri rv ⟨p, ys, _, j, rfl, rfl, hp, by rw [← hs.length]; exact ej, ?_⟩
        exact q _ _ (r.write ep hp (hs.set j hv)) (Ext.write hp)
      · exact q.elim
    · exact q.elim
  · exact q.elim
end
end Gu
end

section
set_option Elab.async false
set_option linter.all false
set_option maxRecDepth 100000
/-! Gu5d: dicts, by values. -/
namespace Gu
open PySem PySem.Spec PyProof.Rows L2
section
variable {K : PySem.W.Frag} {H H' : Hp} {L L' : List Addr} {h : MH}
theorem key_of {y : Val} {z : V} (hz : RV K H L y z) (hk : y.key = true) : ∃ k, keyOf y = some k ∧ z = kV k := by
  cases y <;> first | (cases hk; done) | skip
  · obtain rfl := hz.int_of; exact ⟨_, rfl, rfl⟩
  · obtain ⟨rfl, _⟩ := hz.str_of; exact ⟨_, rfl, rfl⟩
theorem keyOf_key {y : Val} {k : Key} (e : keyOf y = some k) : y.key = true := by
  cases y <;> first | rfl | cases e
theorem keyEq_iff {a b : Val} {j k : Key} (ha : keyOf a = some j) (hb : keyOf b = some k) : keyEq a b = decide (j = k) := by
  cases a <;> first | (cases ha; done) | skip
  · cases ha
    cases b <;> first | (cases hb; done) | skip
    · cases hb; unfold keyEq; simp
    · cases hb; unfold keyEq; simp
  · cases ha
    cases b <;> first | (cases hb; done) | skip
    · cases hb; unfold keyEq; simp
    · cases hb
      unfold keyEq
      by_cases e : ‹List Nat› = ‹List Nat›
      · rename_i s t
        by_cases e : s = t
        · subst e; simp
        · simp [e]
          exact fun z => e (toS_inj z)
      · simp at e
theorem RD.get {ps : List Val} {kvs : List (Key × V)} (r : RD K H L ps kvs) {y : Val} {k : Key} (hk : keyOf y = some k) :
    (∀ v, dGet ps y = some v → ∃ x, valV kvs k = some x ∧ RV K H L v x) ∧ (dGet ps y = none → valV kvs k = none) := by
  induction ps generalizing kvs with
  | nil => rw [show kvs = [] from r]; exact ⟨fun v e => by simp [dGet] at e, fun _ => rfl⟩
  | cons p ps ih =>
    obtain ⟨k0, v0, kk, x, s, rfl, rfl, e3, e4, e5, e6⟩ := r
    obtain ⟨i1, i2⟩ := ih e6
    unfold dGet
    rw [keyEq_iff e3 hk]
    by_cases e : kk = k
    · simp only [decide_eq_true e, if_true]
      rw [valV_pos (p := (kk, x)) e]
      exact ⟨fun v q => by cases q; exact ⟨x, rfl, e5⟩, fun q => nomatch q⟩
    · simp only [decide_eq_false e, Bool.false_eq_true, if_false]
      rw [valV_neg (p := (kk, x)) e]
      exact ⟨i1, i2⟩
theorem RD.isSome {ps : List Val} {kvs : List (Key × V)} (r : RD K H L ps kvs) {y : Val} {k : Key} (hk : keyOf y = some k) : (valV kvs k).isSome = (dGet ps y).isSome := by
  obtain ⟨a, b⟩ := r.get hk
  cases e : dGet ps y with
  | none => rw [b e]; rfl
  | some v => obtain ⟨x, q, _⟩ := a v e; rw [q]; rfl
theorem RD.append {ps : List Val} {kvs : List (Key × V)} (r : RD K H L ps kvs) {y w : Val} {k : Key} {x : V} (hk : keyOf y = some k) (hy : RV K H L y (kV k)) (hw : RV K H L w x) : RD K H L (ps ++ [.tup [y, w]]) (kvs ++ [(k, x)]) := by
  induction ps generalizing kvs with
  | nil => rw [show kvs = [] from r]; exact ⟨y, w, k, x, [], rfl, rfl, hk, hy, hw, rfl⟩
  | cons p ps ih =>
    obtain ⟨k0, v0, kk, x0, s, rfl, rfl, e3, e4, e5, e6⟩ := r
    exact ⟨k0, v0, kk, x0, s ++ [(k, x)], rfl, rfl, e3, e4, e5, ih e6⟩
theorem RD.rep {ps : List Val} {kvs : List (Key × V)} (r : RD K H L ps kvs) {y w : Val} {k : Key} {x : V} (hk : keyOf y = some k) (hw : RV K H L w x) :
    RD K H L (ps.map (dRep y w)) (kvs.map fun kv => if kv.1 = k then (kv.1, x) else kv) := by
  induction ps generalizing kvs with
  | nil => rw [show kvs = [] from r]; rfl
  | cons p ps ih =>
    obtain ⟨k0, v0, kk, x0, s, rfl, rfl, e3, e4, e5, e6⟩ := r
    by_cases e : kk = k
    · refine ⟨k0, w, kk, x, s.map fun kv => if kv.1 = k then (kv.1, x) else kv, ?_, ?_, e3, e4, hw, ih e6⟩
      · show dRep y w (.tup [k0, v0]) = _
        show (if keyEq k0 y = true then Val.tup [k0, w] else Val.tup [k0, v0]) = _
        rw [keyEq_iff e3 hk]; simp [e]
      · simp [e]
    · refine ⟨k0, v0, kk, x0, s.map fun kv => if kv.1 = k then (kv.1, x) else kv, ?_, ?_, e3, e4, e5, ih e6⟩
      · show dRep y w (.tup [k0, v0]) = _
        show (if keyEq k0 y = true then Val.tup [k0, w] else Val.tup [k0, v0]) = _
        rw [keyEq_iff e3 hk]; simp [e]
      · simp [e]
theorem RD.put {ps : List Val} {kvs : List (Key × V)} (r : RD K H L ps kvs) {y w : Val} {k : Key} {x : V} (hk : keyOf y = some k) (hy : RV K H L y (kV k)) (hw : RV K H L w x) : RD K H L (dPut ps y w) (putK kvs k x) := by
  unfold dPut putK
  rw [valV_any, r.isSome hk]
  cases (dGet ps y).isSome with
  | true => simpa using r.rep hk hw
  | false => simpa using r.append hk hy hw
/-- a dict of ours -/
theorem the_dct (r : HR K H L h) {x : Val} {z : V} {n : Nat} {ps : List Val} (hx : RV K H L x z) (e : dctL h x = some (n, ps)) : ∃ a kvs, x = .loc n ∧ h[n]? = some (.dct ps) ∧ z = .ref a ∧ L[n]? = some a ∧ H a = some (.dK kvs) ∧ RD K H L ps kvs := by
  cases x <;> first | (cases e; done) | skip
  rename_i m
  unfold dctL at e
  simp only at e
  split at e
  · rename_i ps' eh
    cases e
    obtain ⟨a, h1, rfl⟩ := hx.loc_of
    obtain ⟨kvs, h2, h3⟩ := r.at eh h1
    exact ⟨a, kvs, rfl, eh, rfl, h1, h2, h3⟩
  · cases e
theorem HR.writeD (r : HR K H L h) {n : Nat} {p : Addr} {ks kvs : List (Key × V)} {ps : List Val} (ep : L[n]? = some p) (hp : H p = some (.dK ks)) (k : RD K H L ps kvs) : HR K (upd H p (.dK kvs)) L (h.set n (.dct ps)) ∧ Ext K H L (upd H p (.dK kvs)) L := by
  have x : Ext K H L (upd H p (.dK kvs)) L := Ext.writeO (by rw [hp]; exact fun _ z => nomatch z) (by rw [hp]; exact fun _ _ z => nomatch z)
  exact ⟨r.writeO ep (by rw [hp]; exact fun _ z => nomatch z) (by rw [hp]; exact fun _ _ z => nomatch z) ⟨kvs, upd_same, RD.mono x k⟩, x⟩
theorem RD.del {ps : List Val} {kvs : List (Key × V)} (r : RD K H L ps kvs) {y : Val} {k : Key} (hk : keyOf y = some k) : RD K H L (dDel ps y) (dropK kvs k) := by
  induction ps generalizing kvs with
  | nil => rw [show kvs = [] from r]; rfl
  | cons p ps ih =>
    obtain ⟨k0, v0, kk, x0, s, rfl, rfl, e3, e4, e5, e6⟩ := r
    have := ih e6
    unfold dDel dropK at *
    by_cases e : kk = k
    · have e' : delP y (.tup [k0, v0]) = false := by show (!keyEq k0 y) = false; rw [keyEq_iff e3 hk]; simp [e]
      simp only [List.filter_cons, e', e]
      simpa using this
    · have e' : delP y (.tup [k0, v0]) = true := by show (!keyEq k0 y) = true; rw [keyEq_iff e3 hk]; simp [e]
      simp only [List.filter_cons, e']
      simp [e]
      exact ⟨k0, v0, kk, x0, _, rfl, rfl, e3, e4, e5, by simpa using this⟩
theorem del_at (r : HR K H L h) {o i : Val} {zo zi : V} {h' : MH} (ho : RV K H L o zo) (hi : RV K H L i zi) (e : ddelV o i h = .ok () h') :
    ∃ n a kvs k, o = .loc n ∧ zo = .ref a ∧ zi = kV k ∧ H a = some (.dK kvs) ∧ (valV kvs k).isSome = true ∧ HR K (upd H a (.dK (dropK kvs k))) L h' ∧ Ext K H L (upd H a (.dK (dropK kvs k))) L := by
  unfold ddelV at e
  split at e
  · rename_i n ps ed
    split at e
    · rename_i c
      simp only [Bool.and_eq_true, decide_eq_true_eq] at c
      obtain ⟨a, kvs, rfl, eh, rfl, ea, ha, hd⟩ := the_dct r ho ed
      obtain ⟨k, hk, rfl⟩ := key_of hi c.1
      obtain ⟨r', x'⟩ := r.writeD ea ha (hd.del hk)
      cases e
      exact ⟨n, a, kvs, k, rfl, rfl, rfl, ha, by rw [hd.isSome hk]; exact c.2, r', x'⟩
    · cases e
  · cases e
/-- what a written pair gives -/
theorem put_at (r : HR K H L h) {o i v : Val} {zo zi zv : V} {h' : MH} (ho : RV K H L o zo) (hi : RV K H L i zi) (hv : RV K H L v zv) (e : dputV o i v h = .ok () h') :
    ∃ n a kvs k, o = .loc n ∧ zo = .ref a ∧ zi = kV k ∧ H a = some (.dK kvs) ∧ kvs.length < sizeLine ∧ L[n]? = some a ∧ HR K (upd H a (.dK (putK kvs k zv))) L h' ∧ Ext K H L (upd H a (.dK (putK kvs k zv))) L := by
  unfold dputV at e
  split at e
  · rename_i n ps ed
    split at e
    · rename_i c
      simp only [Bool.and_eq_true, decide_eq_true_eq] at c
      obtain ⟨a, kvs, rfl, eh, rfl, ea, ha, hd⟩ := the_dct r ho ed
      obtain ⟨k, hk, rfl⟩ := key_of hi c.1
      obtain ⟨r', x'⟩ := r.writeD ea ha (hd.put hk hi hv)
      cases e
      exact ⟨n, a, kvs, k, rfl, rfl, rfl, ha, by rw [← hd.length]; exact c.2, ea, r', x'⟩
    · cases e
  · cases e
end
section
variable {X : Cx} {W : XW}
/-- a value that is served by data -/
theorem flat_eq {pins : List (Addr × Obj)} {σ : L2.St} {H : Hp} {L : List Addr} {s : Shared} (I : Inv X pins σ H s) (hu : X.A.units + 164 < cLine) {v w : Val} {x y : V} {u t : Value} (hv : RV X.K H L v x) (hw : RV X.K H L w y) (c : (Val.flat v && Val.flat w && decide (Val.depth v ≤ 150) && decide (Val.depth w ≤ 150)) = true)
    (rx : RelV x u) (ry : RelV y t) : SeqAt.EqAt X.A.in1 s u t (Val.eqb v w) := by
  simp only [Bool.and_eq_true, decide_eq_true_eq] at c
  obtain ⟨d1, k1⟩ := dp_of _ _ hv c.1.1.1
  obtain ⟨d2, k2⟩ := dp_of _ _ hw c.1.1.2
  obtain ⟨as, r1⟩ := Dp.reads I _ x u d1 rx
  obtain ⟨bs, r2⟩ := Dp.reads I _ y t d2 ry
  rw [← eqv_toD _ _ c.1.1.1 c.1.1.2]
  refine SeqAt.eqAt_reads _ _ _ _ _ _ _ _ r1 r2 k1 k2 ?_
  have := Nat.min_le_left (toD v).depth (toD w).depth
  rw [depth_toD] at this
  show X.A.units + 1 + _ < cLine
  rw [depth_toD]
  omega
theorem hits_of {pins : List (Addr × Obj)} {σ : L2.St} {H : Hp} {L : List Addr} {s : Shared} (I : Inv X pins σ H s) (hu : X.A.units + 164 < cLine) {ls : List Val} {kls : List (Key × V)} {vb : List (Key × Value)} (rl : RD X.K H L ls kls) (rb : KV kls vb) :
    ∀ {ps : List Val} {kvs : List (Key × V)} {va : List (Key × Value)} {b : Bool}, RD X.K H L ps kvs → KV kvs va → dEqs ps ls = some b → PySem.W.KeqHits X.A.in1 s vb va b
  | [], kvs, va, b, rp, ra, e => by
    have e0 : kvs = [] := rp
    subst e0
    cases e
    cases ra
    exact .nil
  | p :: ps, kvs, va, b, rp, ra, e => by
    obtain ⟨k0, v0, kk, x0, s', rfl, rfl, e3, e4, e5, e6⟩ := rp
    unfold KV at ra
    cases ra with
    | @cons _ q _ qs hq t =>
      obtain ⟨q1, q2⟩ := hq
      obtain ⟨key, u⟩ := q
      have q1' : kk = key := q1
      subst q1'
      unfold dEqs at e
      obtain ⟨g1, g2⟩ := rl.get (y := k0) e3
      split at e
      · rename_i en
        cases e
        refine .miss ?_
        have rr := rb.val kk
        rw [g2 en] at rr
        cases ev : valueAt vb kk with
        | none => rfl
        | some z => rw [ev] at rr; exact (show False from rr).elim
      · rename_i w ew
        split at e
        · rename_i c
          obtain ⟨y, ey, hy⟩ := g1 w ew
          have rr : RelO (some y) (valueAt vb kk) := by rw [← ey]; exact rb.val kk
          obtain ⟨u2, hu2, ru2⟩ := rr.some_of
          cases ed : dEqs ps ls with
          | none => rw [ed] at e; cases e
          | some b' =>
            rw [ed] at e
            cases e
            exact .hit hu2 (flat_eq I hu e5 hy c q2 ru2) (hits_of I hu rl rb e6 t ed)
        · cases e
theorem opr_deq (hu : X.A.units + 164 < cLine) (ng : Bool) : OpR X (compareOp (if ng then .NotEq else .Eq)) (r2 X.K W fun x y h => R.ofO (deqV ng h x y) h) := by
  intro pins s σ H x y v u Q I rx ry hh
  obtain ⟨gx, gy, h, L, r, hx, hy, q⟩ := hh
  obtain ⟨w, ew, q'⟩ := q.ofO r
  have q2 := q'
  unfold deqV at ew
  split at ew
  · rename_i n ps m ls e1 e2
    obtain ⟨a, kvs, _, _, rfl, _, ha, hd⟩ := the_dct r hx e1
    obtain ⟨b, kls, _, _, rfl, _, hb, hl⟩ := the_dct r hy e2
    obtain rfl : v = Value.ref a := rx
    obtain rfl : u = Value.ref b := ry
    obtain ⟨_, ya, va, ra, da⟩ := (show ObjOk X.prog X.w H s.heap a (.dK kvs) from I.hok a _ ha)
    obtain ⟨_, yb, vb, rb, db⟩ := (show ObjOk X.prog X.w H s.heap b (.dK kls) from I.hok b _ hb)
    have len1 : va.length = ps.length := by rw [← ra.length, hd.length]
    have len2 : vb.length = ls.length := by rw [← rb.length, hl.length]
    have main : ∀ r : Bool, (va.length = vb.length → PySem.W.KeqHits X.A.in1 s vb va r) → w = .bl (xor ng ((va.length == vb.length) && r)) → wpAny (model X.prog X.w) X.A (compareOp (if ng then .NotEq else .Eq) (.ref a) (.ref b)) (EP X pins σ Q) X.xe s := fun r hits e => by
      subst e
      have q3 := q2 _ .mk_bl
      cases ng with
      | true => exact PySem.W.keq_ne (knd := mixKind X.prog X.w) (r := r) ya yb da db (by omega) hits (fin_bl I q3 (by simp))
      | false => exact PySem.W.keq_eq (knd := mixKind X.prog X.w) (r := r) ya yb da db (by omega) hits (fin_bl I q3 (by simp))
    split at ew
    · rename_i el
      cases ed : dEqs ps ls with
      | none => rw [ed] at ew; cases ew
      | some b' =>
        rw [ed] at ew
        cases ew
        refine main b' (fun _ => hits_of I hu hl rb hd ra ed) ?_
        rw [len1, len2, el]; simp
    · rename_i el
      cases ew
      refine main true (fun e => absurd (by rw [← len1, ← len2]; exact e) el) ?_
      have : (va.length == vb.length) = false := by rw [len1, len2]; simpa using el
      rw [this]; simp
  · cases ew
end
end Gu
end

section
set_option Elab.async false
set_option linter.all false
set_option maxRecDepth 100000
/-! Gu6: the look that a text is an expression of the small language; expressions are sound. -/
namespace Gu
open PySem PySem.Spec PyProof.Rows L2

/-- an exception class: how it is made (0: not here, 1: without an __init__, 2: with one field), its field, itself and what stands above it -/
structure XC where
  name : Str
  kind : Nat
  fld : Str
  anc : List Str
/-- an own class: its name, its attributes -/
structure OC where
  name : Str
  flds : List Str
/-- the module: its defs (name, parameters), its constants, its exception classes, own classes, methods -/
structure GT where
  fns : List (Str × Nat)
  gcs : List (Str × Val)
  xcs : List XC := []
  file : Str := ""
  ocs : List OC := []
  mts : List (Nat × Str × Str) := []
/-- a call takes a level more where instances are made -/
def GT.two (G : GT) : Nat := if G.ocs.isEmpty then 0 else 1
def ocB (G : GT) (c : Str) : Bool := G.ocs.any fun p => decide (p.name = c)
def ofB (G : GT) (c f : Str) : Bool := G.ocs.any fun p => decide (p.name = c) && p.flds.contains f
def mtB (G : GT) (k n : Nat) (c m : Str) : Bool := decide (G.mts.lookup k = some (c, m)) && (match G.fns[k]? with
  | some (_, np) => decide (np = n)
  | none => false)
inductive Nd where
  | e (x : Expr) | es (xs : List Expr) | o (x : Option Expr) | gs (x : Expr) (r : List Comprehension)

def noStar : Expr → Bool
  | .Starred .. => false
  | _ => true
def noSet : Expr → Bool
  | .Set .. => false
  | _ => true
def noSl : Expr → Bool
  | .Slice .. => false
  | _ => true
def noSuper : Expr → Bool
  | .Call (.Name x _) [] [] _ => !(x == ("super" : Str))
  | _ => true
def noComp : Expr → Bool
  | .ListComp .. => false
  | .SetComp .. => false
  | .DictComp .. => false
  | _ => true
def plainT : Expr → Bool
  | .UnaryOp .Not _ _ => false
  | .BoolOp .. => false
  | .IfExp .. => false
  | .Compare .. => false
  | _ => true
def visB (sc : Scope) (x : Str) : Bool := match sc.names.lookup x with
  | some .local => true
  | some .cell => true
  | some .free => true
  | _ => false
def locB (sc : Scope) (x : Str) : Bool := match sc.names.lookup x with
  | some .local => true
  | some .cell => true
  | _ => false
def glB (sc : Scope) (x : Str) : Bool := match sc.names.lookup x with
  | some .globalImplicit => true
  | _ => false
def oddN (x : Str) : Bool := (x == ("__debug__" : Str)) || (x == ("__classdict__" : Str)) || (x == ("__name__" : Str))
def fcB : Option Scope → Str → Bool
  | none, _ => true
  | some s, x => s.names.lookup x == some .cell
def stB (fo : Option Scope) (sc : Scope) (x : Str) : Bool := locB sc x && (fcB fo x || (sc.names.lookup x == some .local))
def bltName : BI → Str
  | .len => "len"
  | .int => "int"
  | .str => "str"
  | .list => "list"
  | .tuple => "tuple"
  | .sum => "sum"
  | .max => "max"
  | .min => "min"
  | .abs => "abs"
  | .any => "any"
  | .all => "all"
  | .sorted => "sorted"
  | .dict => "dict"
  | .ord => "ord"
def tkStr : TK → Str
  | .int => "int"
  | .bool => "bool"
  | .str => "str"
  | .list => "list"
  | .tuple => "tuple"
def mtName : MI → Str
  | .append => "append"
  | .pop => "pop"
  | .join => "join"
  | .split => "split"
  | .upper => "upper"
  | .index => "index"
  | .lidx => "index"
  | .extend => "extend"
def okN (N : List Str) (fo : Option Scope) (sc : Scope) (i : Nat) : Expr → Bool
  | .Name x _ => decide (N[i]? = some x) && stB fo sc x
  | _ => false
def okNs (N : List Str) (fo : Option Scope) (sc : Scope) : List Nat → List Expr → Bool
  | [], [] => true
  | i :: is, e :: es => okN N fo sc i e && okNs N fo sc is es
  | _, _ => false
def okT (N : List Str) (fo : Option Scope) (sc : Scope) : NT → Expr → Bool
  | .nm i, e => okN N fo sc i e
  | .tp is, .Tuple es _ _ => okNs N fo sc is es
  | _, _ => false
def ntIs : NT → List Nat
  | .nm i => [i]
  | .tp is => is
def ownP (N : List Str) (own : List Nat) : List (Str × Nat) := own.map fun i => (N.getD i "", i)
def okC : Val → Const → Bool
  | .non, .none => true
  | .bl b, .bool c => b == c
  | .int i, .int j => i == j
  | .str s, .str x => decide (toS s = x) && s.all (fun c => decide (c < 1114112)) && decide (s.length ≤ sizeLine)
  | _, _ => false
mutual
def Val.same : Val → Val → Bool
  | .non, .non => true
  | .bl a, .bl b => a == b
  | .int a, .int b => a == b
  | .str a, .str b => a == b
  | .tup a, .tup b => Val.sames a b
  | _, _ => false
def Val.sames : List Val → List Val → Bool
  | [], [] => true
  | a :: r, b :: s => Val.same a b && Val.sames r s
  | _, _ => false
end
mutual
theorem Val.same_eq : ∀ (a b : Val), Val.same a b = true → a = b
  | .non, .non, _ => rfl
  | .bl a, .bl b, h => by unfold Val.same at h; rw [eq_of_beq h]
  | .int a, .int b, h => by unfold Val.same at h; rw [eq_of_beq h]
  | .str a, .str b, h => by unfold Val.same at h; rw [eq_of_beq h]
  | .tup a, .tup b, h => by unfold Val.same at h; rw [Val.sames_eq a b h]
  | .loc _, _, h => by unfold Val.same at h; cases h
  | .fro _, _, h => by unfold Val.same at h; cases h
  | .dct _, _, h => by unfold Val.same at h; cases h
  | .non, .dct _, h => by unfold Val.same at h; cases h
  | .bl _, .dct _, h => by unfold Val.same at h; cases h
  | .int _, .dct _, h => by unfold Val.same at h; cases h
  | .str _, .dct _, h => by unfold Val.same at h; cases h
  | .tup _, .dct _, h => by unfold Val.same at h; cases h
  | .non, .fro _, h => by unfold Val.same at h; cases h
  | .bl _, .fro _, h => by unfold Val.same at h; cases h
  | .int _, .fro _, h => by unfold Val.same at h; cases h
  | .str _, .fro _, h => by unfold Val.same at h; cases h
  | .tup _, .fro _, h => by unfold Val.same at h; cases h
  | .non, .bl _, h => by unfold Val.same at h; cases h
  | .non, .int _, h => by unfold Val.same at h; cases h
  | .non, .str _, h => by unfold Val.same at h; cases h
  | .non, .tup _, h => by unfold Val.same at h; cases h
  | .non, .loc _, h => by unfold Val.same at h; cases h
  | .bl _, .non, h => by unfold Val.same at h; cases h
  | .bl _, .int _, h => by unfold Val.same at h; cases h
  | .bl _, .str _, h => by unfold Val.same at h; cases h
  | .bl _, .tup _, h => by unfold Val.same at h; cases h
  | .bl _, .loc _, h => by unfold Val.same at h; cases h
  | .int _, .non, h => by unfold Val.same at h; cases h
  | .int _, .bl _, h => by unfold Val.same at h; cases h
  | .int _, .str _, h => by unfold Val.same at h; cases h
  | .int _, .tup _, h => by unfold Val.same at h; cases h
  | .int _, .loc _, h => by unfold Val.same at h; cases h
  | .str _, .non, h => by unfold Val.same at h; cases h
  | .str _, .bl _, h => by unfold Val.same at h; cases h
  | .str _, .int _, h => by unfold Val.same at h; cases h
  | .str _, .tup _, h => by unfold Val.same at h; cases h
  | .str _, .loc _, h => by unfold Val.same at h; cases h
  | .tup _, .non, h => by unfold Val.same at h; cases h
  | .tup _, .bl _, h => by unfold Val.same at h; cases h
  | .tup _, .int _, h => by unfold Val.same at h; cases h
  | .tup _, .str _, h => by unfold Val.same at h; cases h
  | .tup _, .loc _, h => by unfold Val.same at h; cases h
theorem Val.sames_eq : ∀ (a b : List Val), Val.sames a b = true → a = b
  | [], [], _ => rfl
  | a :: r, b :: s, h => by
    unfold Val.sames at h
    rw [Bool.and_eq_true] at h
    rw [Val.same_eq a b h.1, Val.sames_eq r s h.2]
  | [], _ :: _, h => by unfold Val.sames at h; cases h
  | _ :: _, [], h => by unfold Val.sames at h; cases h
end
def glbV (G : List (Str × Val)) (x : Str) (v : Val) : Bool := match G.lookup x with
  | some w => Val.same v w
  | none => false
def argB (x : Expr) (xs : List Expr) : Bool := noStar x && xs.all noStar && decide (xs.length < 20)
/-- pairs are walked by a target of names -/
def itTg : E → Expr → Bool
  | .enm _, .Tuple .. => true
  | .enm _, _ => false
  | _, _ => true
def noSetT (it : E) (tg y : Expr) : Bool := noSet y && itTg it tg
theorem noSetT_1 {it : E} {tg y : Expr} (h : noSetT it tg y = true) : noSet y = true := by unfold noSetT at h; rw [Bool.and_eq_true] at h; exact h.1
theorem noSetT_2 {it : E} {tg y : Expr} (h : noSetT it tg y = true) : itTg it tg = true := by unfold noSetT at h; rw [Bool.and_eq_true] at h; exact h.2
def ownOf : E → List Nat
  | .cl own _ _ _ _ => own
  | _ => []
def okE (G : GT) (N : List Str) : E → Option Scope → Scope → Nd → Bool
  | .nil, _, _, .es [] => true
  | .nil, _, _, .o none => true
  | .cons e es, fo, sc, .es (x :: xs) => noStar x && okE G N e fo sc (.e x) && okE G N es fo sc (.es xs)
  | .var i, _, sc, .e (.Name x _) => decide (N[i]? = some x) && visB sc x && !oddN x
  | .cst v, _, _, .e (.Constant c _ _) => okC v c
  | .glb x v, _, sc, .e (.Name y _) => decide (x = y) && glB sc x && !oddN x && glbV G.gcs x v
  | .bin o a b, fo, sc, .e (.BinOp x o' y _) => decide (o = o') && okE G N a fo sc (.e x) && okE G N b fo sc (.e y)
  | .neg a, fo, sc, .e (.UnaryOp .USub x _) => okE G N a fo sc (.e x)
  | .cmp o a b, fo, sc, .e (.Compare x [o'] [y] _) => decide (o = o') && noSet y && okE G N a fo sc (.e x) && okE G N b fo sc (.e y)
  | .and_ a b, fo, sc, .e (.BoolOp .And (x :: y :: r) p) => okE G N a fo sc (.e x) && okE G N b fo sc (.e (match r with | [] => y | _ => .BoolOp .And (y :: r) p))
  | .or_ a b, fo, sc, .e (.BoolOp .Or (x :: y :: r) p) => okE G N a fo sc (.e x) && okE G N b fo sc (.e (match r with | [] => y | _ => .BoolOp .Or (y :: r) p))
  | .not_ a, fo, sc, .e (.UnaryOp .Not x _) => okE G N a fo sc (.e x)
  | .ite c a b, fo, sc, .e (.IfExp x y z _) => okE G N c fo sc (.e x) && okE G N a fo sc (.e y) && okE G N b fo sc (.e z)
  | .tup es, fo, sc, .e (.Tuple xs _ _) => okE G N es fo sc (.es xs)
  | .lst es, fo, sc, .e (.List xs _) => okE G N es fo sc (.es xs)
  | .idx a b, fo, sc, .e (.Subscript x y _) => noSl y && okE G N a fo sc (.e x) && okE G N b fo sc (.e y)
  | .slc a lo hi, fo, sc, .e (.Subscript x (.Slice l u none _) _) => okE G N a fo sc (.e x) && okE G N lo fo sc (match l with | none => .o none | some z => .e z) && okE G N hi fo sc (match u with | none => .o none | some z => .e z)
  | .mxd a d, fo, sc, .e (.Call (.Name x _) [y] [⟨some k, z, _⟩] _) => decide (x = "max") && decide (k = "default") && glB sc x && noStar y && okE G N a fo sc (.e y) && okE G N d fo sc (.e z)
  | .rev a, fo, sc, .e (.Subscript x (.Slice none none (some (.UnaryOp .USub (.Constant (.int 1) _ _) _)) _) _) => okE G N a fo sc (.e x)
  | .stp a s, fo, sc, .e (.Subscript x (.Slice none none (some y) _) _) => okE G N a fo sc (.e x) && okE G N s fo sc (.e y)
  | .call f es, fo, sc, .e (.Call (.Name x _) xs [] _) => decide (G.fns[f]? = some (x, xs.length)) && glB sc x && !oddN x && xs.all noStar && okE G N es fo sc (.es xs) && (G.mts.lookup f).isNone
  | .fld a f, fo, sc, .e (.Attribute x n _) => decide (n = f) && noSuper x && okE G N a fo sc (.e x)
  | .mcl k c m o es, fo, sc, .e (.Call (.Attribute x n ap) xs [] p) => decide (n = m) && noSuper x && (ap.endLine == p.line) && (match xs with | [] => true | y :: ys => argB y ys) && mtB G k (xs.length + 1) c m && ocB G c && !decide (m = "__init__") && okE G N o fo sc (.e x) && okE G N es fo sc (.es xs)
  | .new k c es, fo, sc, .e (.Call (.Name x _) xs [] _) => decide (x = c) && glB sc x && !oddN x && xs.all noStar && mtB G k (xs.length + 1) c "__init__" && ocB G c && okE G N es fo sc (.es xs)
  | .blt b es, fo, sc, .e (.Call (.Name x _) (y :: ys) [] _) => decide (x = bltName b) && glB sc x && argB y ys && okE G N es fo sc (.es (y :: ys))
  | .isi t a, fo, sc, .e (.Call (.Name x _) [y, .Name z _] [] _) => decide (x = "isinstance") && glB sc x && decide (z = tkStr t) && glB sc z && noStar y && okE G N a fo sc (.e y)
  | .mth m o es, fo, sc, .e (.Call (.Attribute x n ap) [] [] p) => decide (n = mtName m) && noSuper x && (ap.endLine == p.line) && okE G N o fo sc (.e x) && okE G N es fo sc (.es [])
  | .mth m o es, fo, sc, .e (.Call (.Attribute x n ap) (y :: ys) [] p) => decide (n = mtName m) && noSuper x && (ap.endLine == p.line) && argB y ys && okE G N o fo sc (.e x) && okE G N es fo sc (.es (y :: ys))
  | .rng1 a, fo, sc, .e (.Call (.Name x _) [y] [] _) => decide (x = "range") && glB sc x && noStar y && okE G N a fo sc (.e y)
  | .rng2 a b, fo, sc, .e (.Call (.Name x _) [y, z] [] _) => decide (x = "range") && glB sc x && noStar y && noStar z && okE G N a fo sc (.e y) && okE G N b fo sc (.e z)
  | .lc own t it cond elt, fo, sc, .e (.ListComp x [⟨tg, y, ifs, 0⟩] bs _) => blkC N sc bs (ownP N own) && (ntIs t).all (fun i => decide (i ∈ own)) && okT N (some bs) (relS bs sc) t tg && noSetT it tg y && okE G N it fo sc (.e y) && decide (ifs.length ≤ 1) &&
      okE G N cond (some bs) (relS bs sc) (.es ifs) && okE G N elt (some bs) (relS bs sc) (.e x)
  | .lcn own t it cond rest, fo, sc, .e (.ListComp x (⟨tg, y, ifs, 0⟩ :: r) bs _) => blkC N sc bs (ownP N own) && (ntIs t).all (fun i => decide (i ∈ own)) && (ownOf rest).all (fun i => decide (i ∈ own)) && okT N (some bs) (relS bs sc) t tg && noSetT it tg y && okE G N it fo sc (.e y) && decide (ifs.length ≤ 1) &&
      okE G N cond (some bs) (relS bs sc) (.es ifs) && okE G N rest (some bs) (relS bs sc) (.gs x r)
  | .cl own t it cond rest, fo, sc, .gs x (⟨tg, y, ifs, 0⟩ :: r) => (ntIs t).all (fun i => decide (i ∈ own)) && (ownOf rest).all (fun i => decide (i ∈ own)) && okT N fo sc t tg && noSetT it tg y && okE G N it fo sc (.e y) && decide (ifs.length ≤ 1) &&
      okE G N cond fo sc (.es ifs) && okE G N rest fo sc (.gs x r)
  | .dnew, _, _, .e (.Dict [] [] _) => true
  | .lrg a b, fo, sc, .e (.Call (.Name x _) [.Call (.Name y _) [u, v] [] _] [] _) => decide (x = "list") && decide (y = "range") && glB sc x && glB sc y && noStar u && noStar v && okE G N a fo sc (.e u) && okE G N b fo sc (.e v)
  | .d1 a b, fo, sc, .e (.Dict [some x] [y] _) => okE G N a fo sc (.e x) && okE G N b fo sc (.e y)
  | .chn o p a b c, fo, sc, .e (.Compare x [o', p'] [y, z] _) => decide (o = o') && decide (p = p') && noSet y && noSet z && okE G N a fo sc (.e x) && okE G N b fo sc (.e y) && okE G N c fo sc (.e z)
  | .dget a b, fo, sc, .e (.Subscript x y _) => noSl y && okE G N a fo sc (.e x) && okE G N b fo sc (.e y)
  | .din ng a b, fo, sc, .e (.Compare x [o'] [y] _) => decide (o' = if ng then .NotIn else .In) && noSet y && okE G N a fo sc (.e x) && okE G N b fo sc (.e y)
  | .dgt a b c, fo, sc, .e (.Call (.Attribute x n ap) [y, z] [] p) => decide (n = "get") && noSuper x && (ap.endLine == p.line) && argB y [z] && okE G N a fo sc (.e x) && okE G N b fo sc (.e y) && okE G N c fo sc (.e z)
  | .deq ng a b, fo, sc, .e (.Compare x [o'] [y] _) => decide (o' = if ng then .NotEq else .Eq) && noSet y && okE G N a fo sc (.e x) && okE G N b fo sc (.e y)
  | .dc own t it cond kx vx, fo, sc, .e (.DictComp k v [⟨tg, y, ifs, 0⟩] bs _) => blkC N sc bs (ownP N own) && (ntIs t).all (fun i => decide (i ∈ own)) && okT N (some bs) (relS bs sc) t tg && noSetT it tg y && okE G N it fo sc (.e y) && decide (ifs.length ≤ 1) &&
      okE G N cond (some bs) (relS bs sc) (.es ifs) && okE G N kx (some bs) (relS bs sc) (.e k) && okE G N vx (some bs) (relS bs sc) (.e v)
  | .enm a, fo, sc, .e (.Call (.Name x _) [y] [] _) => decide (x = "enumerate") && glB sc x && noStar y && okE G N a fo sc (.e y)
  | .el e, fo, sc, .gs x [] => okE G N e fo sc (.e x)
  | _, _, _, _ => false
end Gu
end

section
set_option Elab.async false
set_option linter.all false
set_option maxRecDepth 100000
set_option maxHeartbeats 2000000
/-! Gx1: an own exception over ValueError whose __init__(self, f) says super().__init__('..') and self.f = f: the def walked. -/
namespace PySem
namespace GuX
open PySem.W PySem.Calls PyProof.Rows PySem.HandSPX
/-- the text of such an __init__ -/
def inA (f : Str) (p1 p2 : Pos) : Arguments := { posonlyargs := [], args := [{ arg := "self", annotation := none, pos := p1 }, { arg := f, annotation := none, pos := p2 }], vararg := none, kwonlyargs := [], kw_defaults := [], kwarg := none, defaults := [] }
def inB (f m : Str) (k : Nat) (q : Nat → Pos) : List Stmt :=
  [.Expr (.Call (.Attribute (.Call (.Name "super" (q 0)) [] [] (q 1)) "__init__" (q 2)) [.Constant (.str m) k (q 3)] [] (q 4)) (q 5), .Assign [.Attribute (.Name "self" (q 6)) f (q 7)] (.Name f (q 8)) (q 9)]
def inS (f : Str) : Scope := { kind := .function, names := [("self", .local), (f, .local), ("__class__", .free), ("super", .globalImplicit)], isGenerator := false, isCoroutine := false, more := [] }
/-- the fields' names -/
def fldOk (f : Str) : Bool := f == ("at" : Str) || (f == ("number" : Str) || f == ("reason" : Str))
theorem fld_cases {f : Str} (h : fldOk f = true) : f = "at" ∨ f = "number" ∨ f = "reason" := by
  unfold fldOk at h
  simp only [Bool.or_eq_true, beq_iff_eq] at h
  exact h
theorem in_bind {f qual m : Str} {k : Nat} {doc pm ct x v cdv : Value} {an : Option Addr} {cc : Addr} {p1 p2 : Pos} {q : Nat → Pos} (h : fldOk f = true) :
    bindArgs (ksFn "__init__" qual (inA f p1 p2) (inB f m k q) (inS f) .none .none doc pm an cdv ct cc) ⟨[x, v], []⟩ = pure [(("self" : Str), x), (f, v)] := by
  rcases fld_cases h with rfl | rfl | rfl <;> first | rfl | with_unfolding_all rfl
theorem in_names {f : Str} (h : fldOk f = true) : (inS f).names.lookup ("self" : Str) = some .local ∧ (inS f).names.lookup f = some .local ∧ (inS f).names.lookup ("__class__" : Str) = some .free ∧ (inS f).names.lookup ("super" : Str) = some .globalImplicit ∧
    (f == ("__debug__" : Str)) = false ∧ (f == ("self" : Str)) = false ∧ (("self" : Str) == f) = false := by
  rcases fld_cases h with rfl | rfl | rfl <;> decide
/-- what the written part says of the class at C, of its __init__ at fI -/
structure XT (prog : Program) (K : Frag) (mg : Str → Option Value) (C D fI : Addr) (f : Str) : Prop where
  cls : ∃ nm q N bs bm sn sub ab col dd k0 k1 k2 k3 k5, K.lookup C = some (excClassObj nm q C N bs bm true sn sub ab col dd k0 k1 k2 k3 k5 "ValueError.__new__") ∧ refsVE bm = true
  sa : findIn K (.ref C) "__setattr__" = some (some (.builtin "object.__setattr__"))
  noN : findIn K (.ref C) f = some none
  iC : findIn K (.ref C) "__init__" = some (some (.ref fI))
  tC : typeIn K (.ref fI) = some (.type "function")
  kC : keepIn K (.ref C) = true
  exC : subIn K (.ref C) (.type "BaseException") = some true
  veC : subIn K (.ref C) (.type "ValueError") = some true
  tyC : typeIn K (.ref C) = some (.type "type")
  fn : ∃ (oc : Value) (od : Option Addr) (qual m : Str) (k : Nat) (doc pm : Value) (an : Option Addr) (cda cc : Addr) (ct : Value) (osl : Array (Option Value)) (p1 p2 : Pos) (q : Nat → Pos),
    K.lookup fI = some ⟨oc, od, .func (ksFn "__init__" qual (inA f p1 p2) (inB f m k q) (inS f) .none .none doc pm an (.ref cda) ct cc), osl⟩ ∧ codeIn K (.ref cda) qual = true ∧ ((q 2).endLine == (q 4).line) = true ∧
      (∃ ccl cdd vs ccs file tf, K.lookup cda = some ⟨ccl, cdd, .fields vs, ccs⟩ ∧ vs[2]? = some (.str file tf) ∧ ((prog.main.file : Str) == file) = true) ∧
      ∃ cl cld csl, K.lookup cc = some ⟨cl, cld, .cell (some (.ref D)), csl⟩
  hD : (clsIn K D).isSome = true
  hsub : mroIn K C (.ref D) = some true
  hsup : ks_superIn K C D "__init__" = some (some (.builtin "ValueError.__init__"))
  hno : nsIn K cStatics "thirdparty.any" = some none
  msup : mg "super" = none
  top : (prog.main.scope.names.lookup ("super" : Str)).isSome = false
  fok : fldOk f = true
theorem call_line {o : Expr} {name : Str} {apos pos : Pos} {e : Expr} {env : Env} (h1 : (apos.endLine == pos.line) = true) (hs : starEach [e] env = [(false, eval e env)]) :
    eval (.Call (.Attribute o name apos) [e] [] pos) env = (do
      let ov ← attributeBase o name env (eval o env)
      standAt apos.atName
      let (f, first) ← holding [ov] (getMethod ov name (do return (← importBound o env).getD true))
      callWith pos f first (backTo pos (starEach [e] env)) []) := by
  have form : methodCallForm 1 (backTo pos (starEach [e] env)) [] = true := by rw [hs]; rfl
  show (do
    let ov ← attributeBase o name env (eval o env)
    standAt apos.atName
    methodCall o name apos pos env ov 1 (backTo pos (starEach [e] env)) []) = _
  have key : ∀ ov, methodCall o name apos pos env ov 1 (backTo pos (starEach [e] env)) [] = (do
      let (f, first) ← holding [ov] (getMethod ov name (do return (← importBound o env).getD true))
      callWith pos f first (backTo pos (starEach [e] env)) []) := fun ov => by
    unfold methodCall
    rw [form]
    have p : methodCallPos true o env apos pos = pure pos := by
      unfold methodCallPos
      rw [if_pos (by rw [h1]; rfl)]
    rw [p]
    unfold calleeOf
    rw [if_pos rfl]
    simp only [pure_bind]
  simp only [key]
theorem one_size (v : Value) : [v].length ≤ sizeLine := by
  rw [sizeLine_eq]
  exact (by decide : 1 ≤ 16777216)
/-- what __init__ leaves of a fresh exception at x -/
structure InEnd (f : Str) (h h' : Heap) (x C dx : Addr) (v : Value) : Prop where
  keep : ∀ b o, b ≠ x → h.get? b = some o → h'.get? b = some o
  obj : ∃ t1 : Addr, h'.get? x = some { cls := .ref C, dict := some dx, data := .fields #[.ref t1, .none, .none, .none, .bool false, .none] }
  dbig : h.objs.size ≤ dx
  dne : dx ≠ x
  ns : h'.Ns1 dx (fun y => if y = f then some v else none)
section
variable {prog : Program} {w : World} {A : Around} {E : Value → Shared → Prop} {R : Result → Shared → Prop} {s : Shared} {K : Frag} {mg mb : Str → Option Value} {C D fI : Addr} {f : Str}
theorem cls_of {K : Frag} {h : Heap} {D : Addr} (X : K.In h) (hD : (clsIn K D).isSome = true) : ∃ cd oD, clsIn K D = some cd ∧ h.get? D = some oD ∧ oD.data = .cls cd := by
  cases e : clsIn K D with
  | none => rw [e] at hD; cases hD
  | some cd =>
    refine ⟨cd, ?_⟩
    unfold clsIn at e
    split at e
    · rename_i c d cd' sl ho
      cases e
      exact ⟨_, rfl, X _ _ ho, rfl⟩
    · cases e
/-- the bound ValueError.__init__ called -/
theorem mw_called {u x C t0 : Addr} {rest : List Value} {nm qq : Str} {N : Addr} {bs bm : List Value} {hdc : Bool} {sn : List Str} {sub : List Value} {ab : Bool} {col : Option Bool} {dd : Option Addr} {k0 k1 k2 k3 k5 : Option Value} {Q : Value → Shared → Prop}
    (hC : s.heap.get? C = some (excClassObj nm qq C N bs bm hdc sn sub ab col dd k0 k1 k2 k3 k5 "ValueError.__new__")) (he : s.heap.get? x = some (excO C t0)) (hu : s.heap.get? u = some (kxs_mw "ValueError.__init__" x)) (hz : rest.length ≤ sizeLine)
    (h : ∀ h' t', (∀ b o, b ≠ x → s.heap.get? b = some o → h'.get? b = some o) → h'.get? x = some (excO C t') → Q .none { s with heap := h' }) : wpAny (model prog w) A (call (.ref u) rest) Q E s := by
  obtain ⟨hh, g1, d1, tk1, os1⟩ := s
  have FB := PySem.F.excBase_ValueError
  refine wpAny_call (codeAny_of_tree ?_)
  show wpAny (model prog w) A.in1 (callAny (.ref u) { pos := rest }) _ _ _
  unfold callAny
  refine wpAny_bind (wpAny_load hu ?_)
  have isM : (Value.type "method-wrapper" == Value.type "method" || Value.type "method-wrapper" == Value.type "builtin_function_or_method" || Value.type "method-wrapper" == Value.type "method-wrapper") = true := by decide
  simp only [kxs_mw, isM, if_true]
  refine KFB.if_so (by decide) (wpAny_bind (check_bound_init (cls := "ValueError") FB.toExcCallFacts hC he rfl (wpAny_bind (wpAny_pure (wpAny_pure ⟨plainId_quiet FB.init.plain _, codeAny_builtin FB.initEntry ?_⟩)))))
  refine exc_init_tree (t0 := t0) (cls := .ref C) (c2 := .none) (c3 := .none) (b4 := .bool false) (dv := none) he hz ?_
  intro h' k1 e1 _
  exact h h' _ k1 e1
theorem in_walk (T : XT prog K mg C D fI f) {x t0 : Addr} {v : Value} (X : K.In s.heap) (hlim : s.heap.NoLimit) (G : s.heap.Ns mainGlobals mg) (B : s.heap.Ns builtinsNs mb) (hb : mb "super" = some (.type "super")) (hx : s.heap.get? x = some (excO C t0)) (hnx : K.lookup x = none)
    (hroom : A.depth < recursionLimit) (hq : ∀ h' tk dx, InEnd f s.heap h' x C dx v → R (.ok (.ret .none)) { s with heap := h', toks := tk }) :
    codeAny (model prog w) A (.call (.ref fI) ⟨[.ref x, v], []⟩) R s := by
  obtain ⟨oc, od, qual, m, k, doc, pm, an, cda, cc, ct, osl, p1, p2, q, ho, hcd, hline, ⟨ccl, cdd, vs, ccs, file, tf, hcode, hvs, hfile⟩, cl, cld, csl, hcell⟩ := T.fn
  obtain ⟨nm, qq, N, bs, bm, sn, sub, ab, col, dd, k0, k1, k2, k3, k5, hC, hbm⟩ := T.cls
  have hcl : clsIn K C = some { name := nm, bases := bs, mro := .ref C :: bm, ns := N, qualname := qq, hasDict := true, slotNames := sn, subclasses := sub, abstract := ab, collection := col, hasDel := false } := by unfold clsIn; rw [hC] <;> rfl
  obtain ⟨lself, lf, lc, ls, ld, ls1, ls2⟩ := in_names T.fok
  obtain ⟨cd, oD, hcdD, hD1, hD2⟩ := cls_of X T.hD
  refine ks_codeAny_call_defAt (binds := [("self", .ref x), (f, v)]) hroom (X _ _ ho) rfl hlim (codeRec_of X hcd) rfl (BindsTo.of_eq (in_bind T.fok)) (by simp [inS]) (by simp [lself, lf]) (fun h₁ hns hk₁ => ?_) rfl rfl rfl
  have X₁ : K.In h₁ := X.keeps hk₁
  have hx₁ := hk₁ _ _ hx
  obtain ⟨hp, g, d, tk, os⟩ := s
  have G₁ := G.keeps hk₁
  have B₁ := B.keeps hk₁
  refine ks_wpAt_execs_cons (ks_wpAt_Expr_any (ks_wpAt_MethodCall ?_ (call_line hline rfl)))
  refine ks_wpAt_super_base ls lc (by decide) rfl (X₁ _ _ ho) rfl rfl rfl (X₁ _ _ hcode) rfl hvs hfile T.top ?_
  refine ks_loadName_global rfl ls (loadGlobal_builtin G₁ T.msup B₁ hb ⟨rfl, ?_⟩)
  refine wpAny_loadName_free rfl lc rfl ⟨_, X₁ _ _ hcell, rfl⟩ ?_
  refine wpAny_loadName_local (v := .ref x) rfl lself hns (by simp [List.lookup, ls2]) ?_
  refine ks_wpAny_isType_cls (hk₁ _ _ hD1) hD2 ⟨rfl, ?_⟩
  refine ks_wpAny_call_super (hk₁ _ _ hD1) hD2 hx₁ rfl (fun _ z => nomatch z) (looks_mroIn X₁ T.hsub) (fun h₂ hso hk₂ => ?_)
  have X₂ : K.In h₂ := X₁.keeps hk₂
  have hx₂ := hk₂ _ _ hx₁
  have xC : x ≠ C := fun z => by rw [z, hC] at hnx; cases hnx
  have I₂ : InstAt h₂ x (excO C t0) C none := ⟨hx₂, rfl, rfl, trivial⟩
  have hsup := T.hsup
  unfold ks_superIn at hsup
  rw [hcl] at hsup
  refine kxs_getMethod kxs_ValueError hso (looks_opaque X₂ T.hno) (l₀ := .ref C :: bm) (fun A Q E s k q => wpAny_bind ((looks_clsIn X₂ hcl) A _ E s k (wpAny_pure q))) rfl X₂ hsup (I₂.type.andThen (looks_subIn X₂ T.veC)) xC (by decide) ?_
  have up₂ : ∀ b o, h₂.get? b = some o → (h₂.push (kxs_mw "ValueError.__init__" x)).get? b = some o := fun b o e => Heap.get?_push_of_some _ e
  have hu : (h₂.push (kxs_mw "ValueError.__init__" x)).get? h₂.objs.size = some (kxs_mw "ValueError.__init__" x) := Heap.get?_push_at rfl rfl
  refine kxs_callWith (i := "ValueError.__init__") (x := x) rfl (evalArgs_plain (Calls.spliced_cons (wpAny_Constant_str (k := k) (pos := q 3) (Calls.spliced_nil ⟨hu, ?_⟩))))
  generalize h₂.push (kxs_mw "ValueError.__init__" x) = h₃ at up₂ hu
  have keep₃ : ∀ b o, hp.get? b = some o → h₃.get? b = some o := fun b o e => up₂ b o (hk₂ b o (hk₁ b o e))
  have keep₁ : ∀ b o, h₁.get? b = some o → h₃.get? b = some o := fun b o e => up₂ b o (hk₂ b o e)
  refine mw_called (t0 := t0) (keep₁ _ _ (hk₁ _ _ (X _ _ hC))) (keep₃ _ _ hx) hu (one_size _) fun h₄ t₄ k₄ hx₄ => ?_
  have n₄ : h₄.Ns hp.objs.size (fun y => [(("self" : Str), Value.ref x), (f, v)].reverse.lookup y) := by
    obtain ⟨oL, es, ep, hL, r⟩ := hns
    exact ⟨oL, es, ep, k₄ _ _ (Nat.ne_of_gt (Heap.lt_size hx)) (keep₁ _ _ hL), r⟩
  have X₄ : K.In h₄ := fun a o e => k₄ a o (fun z => by rw [z, hnx] at e; cases e) (keep₁ _ _ (X₁ a o e))
  refine ks_wpAt_execs_cons (wpAt_of_wpAny (plainObj_wpAny_Assign_Attribute (wpAny_Name (wpAny_loadName_local (v := v) rfl lf n₄ (by simp [List.lookup]) ?_) ld)))
  refine wpAny_Name (wpAny_loadName_local (v := .ref x) rfl lself n₄ (by simp [List.lookup, ls2]) ?_) (by decide)
  refine set_plain X₄ (ox := excO C t₄) (od := none) ⟨hx₄, rfl, rfl, trivial⟩ T.sa ?_
  refine exc_osa X₄ hx₄ hcl (show refsVE (.ref C :: bm) = true from hbm) rfl T.noN (fun h₅ tk₅ dx k₅ dn dne hx₅ hn₅ => ?_)
  refine wpAt_of_wpAny ?_
  refine wpAny_execs_nil (hq h₅ tk₅ dx ⟨fun b o hb e => k₅ b o hb (k₄ b o hb (keep₃ b o e)), ⟨_, hx₅⟩, ?_, dne, hn₅⟩)
  exact Nat.le_trans (Nat.le_of_lt n₄.lt) dn
/-- a made exception -/
structure XMade (f : Str) (h h' : Heap) (e C d : Addr) (v : Value) : Prop where
  keep : ∀ b o, h.get? b = some o → h'.get? b = some o
  new : h.objs.size ≤ e
  obj : ∃ oe vs, h'.get? e = some oe ∧ oe.cls = .ref C ∧ oe.dict = some d ∧ oe.data = .fields vs ∧ vs[1]? = some .none
  dbig : h.objs.size ≤ d
  dne : d ≠ e
  ns : h'.Ns1 d (fun y => if y = f then some v else none)
theorem x_made (T : XT prog K mg C D fI f) {v : Value} (X : K.In s.heap) (hlim : s.heap.NoLimit) (G : s.heap.Ns mainGlobals mg) (B : s.heap.Ns builtinsNs mb) (hb : mb "super" = some (.type "super")) (hroom : A.depth + 1 < recursionLimit)
    (hq : ∀ h' tk e d, XMade f s.heap h' e C d v → R (.ok (.ret (.ref e))) { s with heap := h', toks := tk }) : codeAny (model prog w) A (.call (.ref C) ⟨[v], []⟩) R s := by
  obtain ⟨nm, q, N, bs, bm, sn, sub, ab, col, dd, k0, k1, k2, k3, k5, hC, hbm⟩ := T.cls
  obtain ⟨hp, g, dr, tk, os⟩ := s
  have k : ∀ b o, hp.get? b = some o → ((hp.push (kdv_tup [v])).push (excO C hp.objs.size)).get? b = some o := fun b o e => Heap.get?_push_of_some _ (Heap.get?_push_of_some _ e)
  have hget : ((hp.push (kdv_tup [v])).push (excO C hp.objs.size)).get? (hp.objs.size + 1) = some (excO C hp.objs.size) := by heap_get
  have hnx : K.lookup (hp.objs.size + 1) = none := by
    cases e : K.lookup (hp.objs.size + 1) with
    | none => rfl
    | some o =>
      have z : hp.get? (hp.objs.size + 1) = some o := X _ _ e
      exact absurd (Nat.lt_of_succ_lt (Heap.lt_size z)) (Nat.lt_irrefl _)
  refine call_own PySem.F.excBase_ValueError (fun X => refsVE_contains X bm hbm) (X _ _ hC) (looks_findIn X T.iC) (fun self => bind_fn X self T.tC) (one_size v) ?_
  refine in_walk (s := ⟨(hp.push (kdv_tup [v])).push (excO C hp.objs.size), g, dr, tk, os⟩) T (X.keeps k) (hlim.keeps k) (G.keeps k) (B.keeps k) hb hget hnx ?_ fun h' tk' dx ⟨k', ⟨t1, hx⟩, dn, dne, hns⟩ => ?_
  · show A.depth + 1 < recursionLimit
    exact hroom
  · have old : ∀ b o, hp.get? b = some o → h'.get? b = some o := fun b o e => k' b o (Nat.ne_of_lt (Nat.lt_succ_of_lt (Heap.lt_size e))) (k b o e)
    have z : hp.objs.size + 1 + 1 ≤ dx := by
      have q := dn
      rw [Heap.size_push, Heap.size_push] at q
      exact q
    exact ⟨rfl, hq h' tk' (hp.objs.size + 1) dx ⟨old, Nat.le_succ _, ⟨_, _, hx, rfl, rfl, rfl, rfl⟩, Nat.le_trans (Nat.le_trans (Nat.le_succ _) (Nat.le_succ _)) z, dne, hns⟩⟩
end
end GuX
end PySem

namespace L2
open PySem PySem.Spec PyProof.Rows
theorem relO_fld {f : Str} {v : V} {v' : Value} (r : RelV v v') (g : Str) : RelO (List.lookup g [(f, v)]) (if g = f then some v' else none) := by
  by_cases h : g = f
  · rw [if_pos h, h]
    have q : List.lookup f [(f, v)] = some v := by simp [List.lookup]
    rw [q]
    exact r
  · rw [if_neg h]
    have e : (g == f) = false := by simpa using h
    have q : List.lookup g [(f, v)] = none := by simp [List.lookup, e]
    rw [q]
    trivial
section
variable {X : Cx} {C D fI : Addr} {f x : Str}
/-- X(e), X's __init__ keeping the field f -/
def tMkX (C : Addr) (f : Str) (ta : TA) : St → Hp → XK → Prop := fun σ H Q => ta σ H fun vs H1 => ∃ v, vs = [v] ∧ ∀ d, H1 d = none → Q (.ref C) (some d) (upd H1 d (.xd [(f, v)]))
theorem pmk_x {a : Expr} {ta : TA} {p pos : Pos} (T : PySem.GuX.XT X.prog X.K X.mg C D fI f) (gC : X.mg x = some (.ref C)) (hr : X.A.depth + 1 < recursionLimit) (ha : PA X [a] ta) (hg : Gl X x) (hdb : (x == ("__debug__" : Str)) = false)
    (he : starEach (a :: []) X.env = (false, eval a X.env) :: starEach [] X.env) (hpl : (backTo pos (starEach [] X.env)).any (·.1) = false := by rfl) :
    PMk X (.Call (.Name x p) [a] [] pos) (tMkX C f ta) := by
  intro pins s σ H Q I h
  refine wpAny_Call_Name_kw (ld_glob I hg gC ?_ hdb)
  refine PySem.W.callWith_K (h₀ := X.base) I.ok.mod.kin T.kC (thn (ha.run pos pins s σ H _ I h) fun us s1 hh => ?_) he hpl
  obtain ⟨vs, H1, I1, r1, v, ev, q1⟩ := hh
  subst ev
  refine ⟨I1.kIn, ?_⟩
  cases r1 with
  | cons rv rn =>
    rename_i v' us'
    cases rn
    show wpAny _ _ (call (.ref C) [v']) _ _ _
    have hlim := I1.nolimit
    obtain ⟨mb, hB, hb⟩ := I1.mod.blt
    have hG := I1.mod.glob.keeps I1.bk
    have hB' := hB.keeps I1.bk
    obtain ⟨hp, g, dr, tk, os⟩ := s1
    refine wpAny_call (PySem.GuX.x_made T I1.kIn hlim hG hB' ((hb _ (by decide)).trans (by rfl)) hr fun h' tk' e d M => ?_)
    show MkP X pins σ Q (.ref e) ⟨h', g, dr, tk', os⟩
    obtain ⟨oe, fv, hoe, hc, hd, hdat, h1⟩ := M.obj
    have hns := M.ns
    obtain ⟨G', g1, g2⟩ := restrict h' fun b => decide (b ≠ e)
    have gk : ∀ b, b ≠ e → G'.get? b = h'.get? b := fun b hb => g1 b (decide_eq_true hb)
    have ge : G'.get? e = none := g2 e (by simp)
    have old : ∀ b o, hp.get? b = some o → G'.get? b = some o := fun b o q => (gk b (Nat.ne_of_lt (Nat.lt_of_lt_of_le (Heap.lt_size q) M.new))).trans (M.keep b o q)
    have ob : ObjOk X.prog X.w (upd H1 d (.xd [(f, v)])) G' d (.xd [(f, v)]) :=
      ⟨_, hns.at (fun o q => (gk d M.dne).trans q), fun g => relO_fld rv g⟩
    have J : Inv X pins σ (upd H1 d (.xd [(f, v)])) ⟨G', g, dr, tk', os⟩ := I1.laid (t' := tk') old M.dbig ob
    refine ⟨e, oe, fv, ⟨G', g, dr, tk', os⟩, _, .ref C, some d, rfl, J, fun b o q => ?_, ge, hoe, ⟨hc, hd⟩, hdat, h1, ?_, rfl, I1.bare, raises_own T.exC T.tyC, q1 d (I1.hok.fresh M.dbig)⟩
    · by_cases hb : b = e
      · have q' : G'.get? b = some o := q
        rw [hb, ge] at q'; cases q'
      · exact (gk b hb).symm.trans q
    · rw [upd_ne (Ne.symm M.dne)]
      exact I1.hok.fresh M.new
end
end L2
end

section
set_option Elab.async false
set_option linter.all false
set_option maxRecDepth 100000
set_option maxHeartbeats 2000000
/-! Gx2: the exception classes of a text: what is looked at in the written part, what it gives. -/
namespace PySem
namespace GuX
open PySem.W PySem.Calls PyProof.Rows PySem.HandSPX
def iPars : Arguments → Option (Str × Pos × Pos)
  | ⟨[], [⟨a, none, p1⟩, ⟨b, none, p2⟩], none, [], [], none, []⟩ => if a = "self" then some (b, p1, p2) else none
  | _ => none
theorem iPars_eq {a : Arguments} {b : Str} {p1 p2 : Pos} (h : iPars a = some (b, p1, p2)) : a = inA b p1 p2 := by
  unfold iPars at h
  split at h
  · split at h
    · rename_i e
      subst e
      cases h
      rfl
    · cases h
  · cases h
def iPos (q0 q1 q2 q3 q4 q5 q6 q7 q8 q9 : Pos) : Nat → Pos
  | 0 => q0 | 1 => q1 | 2 => q2 | 3 => q3 | 4 => q4 | 5 => q5 | 6 => q6 | 7 => q7 | 8 => q8 | _ => q9
def iBody : FuncBody → Option (Str × Str × Nat × (Nat → Pos))
  | .stmts [.Expr (.Call (.Attribute (.Call (.Name s q0) [] [] q1) ini q2) [.Constant (.str m) k q3] [] q4) q5, .Assign [.Attribute (.Name s2 q6) f q7] (.Name f2 q8) q9] =>
    if s = "super" ∧ ini = "__init__" ∧ s2 = "self" ∧ f2 = f then some (f, m, k, iPos q0 q1 q2 q3 q4 q5 q6 q7 q8 q9) else none
  | _ => none
theorem iBody_eq {b : FuncBody} {f m : Str} {k : Nat} {q : Nat → Pos} (h : iBody b = some (f, m, k, q)) : b = .stmts (inB f m k q) := by
  unfold iBody at h
  split at h
  · split at h
    · rename_i e
      obtain ⟨rfl, rfl, rfl, rfl⟩ := e
      cases h
      rfl
    · cases h
  · cases h
/-- an __init__ of that text, its file -/
def fdB (K : Frag) (file : Str) (C : Addr) (f : Str) : FuncData → Bool
  | ⟨nm, qual, ps, b, sc, gl, [(c, cc)], .none, .none, _, _, _, .ref cda, _, bl⟩ =>
    decide (nm = "__init__") && (match iPars ps with | some (f1, _, _) => decide (f1 = f) | none => false) &&
    (match iBody b with | some (f1, _, _, q) => decide (f1 = f) && ((q 2).endLine == (q 4).line) | none => false) &&
    decide (sc = inS f) && decide (gl = mainGlobals) && decide (c = "__class__") && decide (bl = builtinsNs) && codeIn K (.ref cda) qual &&
    (match K.lookup cda with
      | some ⟨_, _, .fields vs, _⟩ => (match (vs[2]? : Option Value) with | some (.str x _) => x == file | _ => false)
      | _ => false) &&
    (match K.lookup cc with
      | some ⟨_, _, .cell (some (.ref D)), _⟩ => (clsIn K D).isSome && decide (mroIn K C (.ref D) = some true) && decide (ks_superIn K C D "__init__" = some (some (.builtin "ValueError.__init__")))
      | _ => false)
  | _ => false
def clsB (K : Frag) (C : Addr) : Bool := match K.lookup C with
  | some ⟨.type t, _, .cls cd, sl⟩ => decide (t = "type") && (match cd.mro with | .ref C' :: bm => decide (C' = C) && refsVE bm | _ => false) && cd.hasDict && !cd.hasDel &&
    (match sl.toList with | [_, _, _, _, some (.builtin n), _] => decide (n = "ValueError.__new__") | _ => false)
  | _ => false
theorem clsB_ok {K : Frag} {C : Addr} (h : clsB K C = true) : ∃ nm q N bs bm sn sub ab col dd k0 k1 k2 k3 k5, K.lookup C = some (excClassObj nm q C N bs bm true sn sub ab col dd k0 k1 k2 k3 k5 "ValueError.__new__") ∧ refsVE bm = true := by
  unfold clsB at h
  split at h
  · rename_i t dd cd sl ho
    simp only [Bool.and_eq_true, decide_eq_true_eq, Bool.not_eq_true'] at h
    obtain ⟨⟨⟨⟨rfl, h1⟩, h2⟩, h3⟩, h4⟩ := h
    split at h1
    · rename_i C' bm em
      simp only [Bool.and_eq_true, decide_eq_true_eq] at h1
      obtain ⟨rfl, h1⟩ := h1
      split at h4
      · rename_i k0 k1 k2 k3 n k5 es
        have h4 := of_decide_eq_true h4
        subst h4
        obtain ⟨nm, bs, mro, ns, qn, hd, sn, sb, ab, col, del⟩ := cd
        dsimp only at em h2 h3
        subst em
        subst h2
        subst h3
        have e2 : sl = #[k0, k1, k2, k3, some (.builtin "ValueError.__new__"), k5] := by
          cases sl with
          | mk l => rw [show l = _ from es]
        subst e2
        exact ⟨_, _, _, _, _, _, _, _, _, _, _, _, _, _, _, ho, h1⟩
      · cases h4
    · cases h1
  · cases h
/-- the written part of an exception class with a field -/
def xtB (K : Frag) (file : Str) (C : Addr) (f : Str) : Bool :=
  clsB K C && He.eqO (findIn K (.ref C) "__setattr__") (some (some (.builtin "object.__setattr__"))) && He.eqO (findIn K (.ref C) f) (some none) && keepIn K (.ref C) &&
  decide (subIn K (.ref C) (.type "BaseException") = some true) && decide (subIn K (.ref C) (.type "ValueError") = some true) && decide (typeIn K (.ref C) = some (.type "type")) && decide (nsIn K cStatics "thirdparty.any" = some none) && fldOk f &&
  (match findIn K (.ref C) "__init__" with
    | some (some (.ref fI)) => decide (typeIn K (.ref fI) = some (.type "function")) && (match K.lookup fI with | some ⟨_, _, .func fd, _⟩ => fdB K file C f fd | _ => false)
    | _ => false)
theorem xtB_ok {prog : Program} {K : Frag} {mg : Str → Option Value} {file : Str} {C : Addr} {f : Str} (h : xtB K file C f = true) (hf : (prog.main.file : Str) = file) (ht : (prog.main.scope.names.lookup ("super" : Str)).isSome = false) (hm : mg "super" = none) :
    ∃ D fI, XT prog K mg C D fI f := by
  unfold xtB at h
  simp only [Bool.and_eq_true, decide_eq_true_eq] at h
  obtain ⟨⟨⟨⟨⟨⟨⟨⟨⟨h1, h2⟩, h3⟩, h4⟩, h5⟩, h6⟩, h7⟩, h8⟩, h9⟩, h10⟩ := h
  split at h10
  · rename_i fI ei
    simp only [Bool.and_eq_true, decide_eq_true_eq] at h10
    obtain ⟨h10, h11⟩ := h10
    split at h11
    · rename_i oc od fd osl ho
      unfold fdB at h11
      split at h11
      · rename_i nm qual ps b sc gl c cc doc pm an cda ct bl
        simp only [Bool.and_eq_true, decide_eq_true_eq] at h11
        obtain ⟨⟨⟨⟨⟨⟨⟨⟨⟨rfl, g2⟩, g3⟩, rfl⟩, rfl⟩, rfl⟩, rfl⟩, g8⟩, g9⟩, g10⟩ := h11
        split at g2
        · rename_i f1 p1 p2 ep
          have g2 := of_decide_eq_true g2
          subst g2
          split at g3
          · rename_i f2 m k q eb
            simp only [Bool.and_eq_true, decide_eq_true_eq] at g3
            obtain ⟨rfl, g3⟩ := g3
            have e1 := iPars_eq ep
            subst e1
            have e2 := iBody_eq eb
            subst e2
            split at g9
            · rename_i ccl cdd vs ccs hcode
              split at g9
              · rename_i x tf hv
                split at g10
                · rename_i cl cld D csl hcell
                  simp only [Bool.and_eq_true, decide_eq_true_eq] at g10
                  exact ⟨D, fI, { cls := clsB_ok h1, sa := He.eqO_ok h2, noN := He.eqO_ok h3, iC := ei, tC := h10, kC := h4, exC := h5, veC := h6, tyC := h7
                                  fn := ⟨_, _, qual, m, k, _, _, _, cda, cc, _, _, p1, p2, q, ho, g8, g3, ⟨_, _, vs, _, x, tf, hcode, hv, by rw [hf, ← eq_of_beq g9]; exact beq_self_eq_true _⟩, _, _, _, hcell⟩
                                  hD := g10.1.1, hsub := g10.1.2, hsup := g10.2, hno := h8, msup := hm, top := ht, fok := h9 }⟩
                · cases g10
              · cases g9
            · cases g9
          · cases g3
        · cases g2
      · cases h11
    · cases h11
  · cases h10
end GuX
end PySem
end

section
set_option Elab.async false
set_option linter.all false
set_option maxRecDepth 100000
set_option maxHeartbeats 2000000
/-! Gx3: the exception classes as the small language sees them. -/
namespace Gu
open PySem PySem.Spec PyProof.Rows L2
/-- where a class stands -/
abbrev XC.at_ (K : PySem.W.Frag) (p : XC) : Addr := He.ga K p.name
structure XFacts (P : Program) (K : PySem.W.Frag) (mg : Str → Option Value) (G : GT) : Prop where
  cl : ∀ p ∈ G.xcs, mg p.name = some (.ref (p.at_ K)) ∧ (p.name == ("__debug__" : Str)) = false
  exm : ∀ p ∈ G.xcs, ∀ q ∈ G.xcs, PySem.W.exmOne K (.ref (p.at_ K)) (.ref (q.at_ K)) = some (p.anc.contains q.name)
  kit : ∀ p ∈ G.xcs, ∀ q ∈ G.xcs, PySem.W.kitOne K (.ref (p.at_ K)) (.ref (q.at_ K)) = some (p.anc.contains q.name)
  kitV : ∀ p ∈ G.xcs, PySem.W.kitOne K (.ref (p.at_ K)) (.type "ValueError") = some true
  vE : mg "ValueError" = none
  isC : ∀ p ∈ G.xcs, ∀ x od, PySem.W.KitX K (.ref x) (.ref (p.at_ K)) (fun h => ∃ ox, PySem.W.InstAt h x ox (p.at_ K) od)
  xf : ∀ p ∈ G.xcs, XfC K (p.at_ K) ∧ PySem.W.findIn K (.ref (p.at_ K)) p.fld = some none
  mk1 : ∀ p ∈ G.xcs, p.kind = 1 → PySem.W.excIn K (p.at_ K) He.veBase "ValueError.__new__" = true ∧ PySem.W.keepIn K (.ref (p.at_ K)) = true ∧ PySem.W.subIn K (.ref (p.at_ K)) (.type "BaseException") = some true ∧ PySem.W.typeIn K (.ref (p.at_ K)) = some (.type "type")
  mk2 : ∀ p ∈ G.xcs, p.kind = 2 → ∃ D fI, PySem.GuX.XT P K mg (p.at_ K) D fI p.fld
/-- the look at the written part -/
def xsB (K : PySem.W.Frag) (G : GT) : Bool := G.xcs.isEmpty || (G.xcs.all fun p =>
  He.Fa.ok K (.glo p.name) && !(p.name == ("__debug__" : Str)) && (G.xcs.all fun q => decide (PySem.W.exmOne K (.ref (p.at_ K)) (.ref (q.at_ K)) = some (p.anc.contains q.name)) && decide (PySem.W.kitOne K (.ref (p.at_ K)) (.ref (q.at_ K)) = some (p.anc.contains q.name))) &&
  decide (PySem.W.kitOne K (.ref (p.at_ K)) (.type "ValueError") = some true) && He.Fa.ok K (.free "ValueError") &&
  (PySem.W.clsIn K (p.at_ K)).isSome && He.eqO (PySem.W.findIn K (.ref (p.at_ K)) "__class__") (some (some (.builtin "object.__class__"))) && decide (PySem.W.specialIn K (.builtin "object.__class__") "__get__" = some (some (.builtin "getset_descriptor.__get__"))) &&
  decide (PySem.W.takesIn K (.builtin "object.__class__") = some true) && decide (PySem.W.mroIn K (p.at_ K) (.type "object") = some true) && xfB K (p.at_ K) && He.eqO (PySem.W.findIn K (.ref (p.at_ K)) p.fld) (some none) &&
  (!(p.kind == 1) || He.Fa.ok K (.exc p.name)) && (!(p.kind == 2) || (PySem.GuX.xtB K G.file (p.at_ K) p.fld && He.Fa.ok K (.free "super"))))
/-- the look at the program -/
def xsP (P : Program) (G : GT) : Bool := G.xcs.isEmpty || (decide ((P.main.file : Str) = G.file) && !(P.main.scope.names.lookup ("super" : Str)).isSome)
theorem xs_of {P : Program} {K : PySem.W.Frag} {h : Heap} {mg : Str → Option Value} {G : GT} (X : K.In h) (N : h.Ns mainGlobals mg) (b : xsB K G = true) (bp : xsP P G = true) (hv : G.xcs = [] → mg "ValueError" = none) : XFacts P K mg G := by
  unfold xsB at b
  rw [Bool.or_eq_true] at b
  rcases b with b | b
  · have e : G.xcs = [] := by simpa using b
    have no : ∀ p, ¬ p ∈ G.xcs := fun p hp => by rw [e] at hp; cases hp
    exact ⟨fun p hp => (no p hp).elim, fun p hp => (no p hp).elim, fun p hp => (no p hp).elim, fun p hp => (no p hp).elim, hv e, fun p hp => (no p hp).elim, fun p hp => (no p hp).elim, fun p hp => (no p hp).elim, fun p hp => (no p hp).elim⟩
  · rw [List.all_eq_true] at b
    have one : ∀ p ∈ G.xcs, _ := fun p hp => b p hp
    simp only [Bool.and_eq_true, decide_eq_true_eq, Bool.not_eq_true', List.all_eq_true, Bool.or_eq_true] at one
    refine ⟨fun p hp => ?_, fun p hp q hq => ?_, fun p hp q hq => ?_, fun p hp => ?_, ?_, fun p hp x od => ?_, fun p hp => ?_, fun p hp hk => ?_, fun p hp hk => ?_⟩
    · obtain ⟨⟨⟨⟨⟨⟨⟨⟨⟨⟨⟨⟨⟨b1, b2⟩, b3⟩, b4⟩, b5⟩, b6⟩, b7⟩, b8⟩, b9⟩, b10⟩, b11⟩, b12⟩, b13⟩, b14⟩ := one p hp
      exact ⟨He.glo_ok X N b1, b2⟩
    · obtain ⟨⟨⟨⟨⟨⟨⟨⟨⟨⟨⟨⟨⟨b1, b2⟩, b3⟩, b4⟩, b5⟩, b6⟩, b7⟩, b8⟩, b9⟩, b10⟩, b11⟩, b12⟩, b13⟩, b14⟩ := one p hp
      exact (b3 q hq).1
    · obtain ⟨⟨⟨⟨⟨⟨⟨⟨⟨⟨⟨⟨⟨b1, b2⟩, b3⟩, b4⟩, b5⟩, b6⟩, b7⟩, b8⟩, b9⟩, b10⟩, b11⟩, b12⟩, b13⟩, b14⟩ := one p hp
      exact (b3 q hq).2
    · obtain ⟨⟨⟨⟨⟨⟨⟨⟨⟨⟨⟨⟨⟨b1, b2⟩, b3⟩, b4⟩, b5⟩, b6⟩, b7⟩, b8⟩, b9⟩, b10⟩, b11⟩, b12⟩, b13⟩, b14⟩ := one p hp
      exact b4
    · cases e : G.xcs with
      | nil => exact hv e
      | cons p r =>
        obtain ⟨⟨⟨⟨⟨⟨⟨⟨⟨⟨⟨⟨⟨b1, b2⟩, b3⟩, b4⟩, b5⟩, b6⟩, b7⟩, b8⟩, b9⟩, b10⟩, b11⟩, b12⟩, b13⟩, b14⟩ := one p (by rw [e]; exact List.mem_cons_self)
        exact He.free_ok X N b5
    · obtain ⟨⟨⟨⟨⟨⟨⟨⟨⟨⟨⟨⟨⟨b1, b2⟩, b3⟩, b4⟩, b5⟩, b6⟩, b7⟩, b8⟩, b9⟩, b10⟩, b11⟩, b12⟩, b13⟩, b14⟩ := one p hp
      have xf := xfB_ok b11
      have Z : ∀ ox, PySem.W.KitX K (.ref x) (.ref (p.at_ K)) (fun h => PySem.W.InstAt h x ox (p.at_ K) od) := fun ox => PySem.W.kitx_exc b6 xf.ga xf.gg xf.exC (He.eqO_ok b7) b8 b9 b10
      exact { ty := fun M h X ⟨ox, I⟩ => (Z ox).ty M h X I, it := fun M h X ⟨ox, I⟩ => (Z ox).it M h X I, ne := (Z default).ne, ca := fun X ⟨ox, I⟩ k => (Z ox).ca X I k }
    · obtain ⟨⟨⟨⟨⟨⟨⟨⟨⟨⟨⟨⟨⟨b1, b2⟩, b3⟩, b4⟩, b5⟩, b6⟩, b7⟩, b8⟩, b9⟩, b10⟩, b11⟩, b12⟩, b13⟩, b14⟩ := one p hp
      exact ⟨xfB_ok b11, He.eqO_ok b12⟩
    · obtain ⟨⟨⟨⟨⟨⟨⟨⟨⟨⟨⟨⟨⟨b1, b2⟩, b3⟩, b4⟩, b5⟩, b6⟩, b7⟩, b8⟩, b9⟩, b10⟩, b11⟩, b12⟩, b13⟩, b14⟩ := one p hp
      rcases b13 with z | z
      · rw [hk] at z; cases z
      · exact He.exc_ok z
    · obtain ⟨⟨⟨⟨⟨⟨⟨⟨⟨⟨⟨⟨⟨b1, b2⟩, b3⟩, b4⟩, b5⟩, b6⟩, b7⟩, b8⟩, b9⟩, b10⟩, b11⟩, b12⟩, b13⟩, b14⟩ := one p hp
      rcases b14 with z | z
      · rw [hk] at z; cases z
      · unfold xsP at bp
        rw [Bool.or_eq_true] at bp
        rcases bp with z2 | z2
        · have e : G.xcs = [] := by simpa using z2
          rw [e] at hp; cases hp
        · simp only [Bool.and_eq_true, decide_eq_true_eq, Bool.not_eq_true'] at z2
          exact PySem.GuX.xtB_ok z.1 z2.1 z2.2 (He.free_ok X N z.2)
/-- an exception in hand: its class, its field -/
def XR (K : PySem.W.Frag) (G : GT) (c : Nat) (as : List Val) (cls : Value) (d : Option Addr) (H : Hp) : Prop :=
  ∃ p, G.xcs[c]? = some p ∧ cls = .ref (p.at_ K) ∧ ((p.kind = 1 ∧ d = none ∧ as = []) ∨ (p.kind = 2 ∧ ∃ dd v x, d = some dd ∧ as = [v] ∧ v.atom = true ∧ H dd = some (.xd [(p.fld, x)]) ∧ ∀ H L, RV K H L v x))
end Gu
end

section
set_option Elab.async false
set_option linter.all false
set_option maxRecDepth 100000
set_option maxHeartbeats 1000000
/-! Gx7: own classes as the small language sees them. -/
namespace Gu
open PySem PySem.Spec PyProof.Rows L2
structure OFacts (K : PySem.W.Frag) (mg : Str → Option Value) (G : GT) : Prop where
  cl : ∀ p ∈ G.ocs, mg p.name = some (.ref (He.ga K p.name)) ∧ Cls K (He.ga K p.name)
  na : ∀ p ∈ G.ocs, ∀ f ∈ p.flds, NoAttr K (He.ga K p.name) f
/-- a def is a global's, or a class's method -/
def Role (K : PySem.W.Frag) (mg : Str → Option Value) (G : GT) (f : Nat) (x : Str) (fa : Addr) : Prop :=
  match G.mts.lookup f with
  | none => mg x = some (.ref fa)
  | some (c, m) => if m = "__init__" then Mk K (He.ga K c) fa else Meth K (He.ga K c) m fa
theorem role_glob {K : PySem.W.Frag} {mg : Str → Option Value} {G : GT} {f : Nat} {x : Str} {fa : Addr} (h : Role K mg G f x fa) (e : G.mts.lookup f = none) : mg x = some (.ref fa) := by
  unfold Role at h
  rw [e] at h
  exact h
def ocsB (K : PySem.W.Frag) (G : GT) : Bool := G.ocs.all fun p => He.Fa.ok K (.glo p.name) && He.Fa.ok K (.cls p.name) && p.flds.all fun f => He.Fa.ok K (.noat p.name f)
theorem ocs_of {K : PySem.W.Frag} {h : Heap} {mg : Str → Option Value} {G : GT} (X : K.In h) (N : h.Ns mainGlobals mg) (b : ocsB K G = true) : OFacts K mg G := by
  unfold ocsB at b
  rw [List.all_eq_true] at b
  refine ⟨fun p hp => ?_, fun p hp f hf => ?_⟩
  · have q := b p hp
    simp only [Bool.and_eq_true] at q
    exact ⟨He.glo_ok X N q.1.1, He.cls_ok q.1.2⟩
  · have q := b p hp
    simp only [Bool.and_eq_true, List.all_eq_true] at q
    exact He.noat_ok (q.2 f hf)
theorem oc_of {G : GT} {c : Str} (h : ocB G c = true) : ∃ p ∈ G.ocs, p.name = c := by
  unfold ocB at h
  rw [List.any_eq_true] at h
  obtain ⟨p, hp, e⟩ := h
  exact ⟨p, hp, of_decide_eq_true e⟩
theorem of_of {G : GT} {c f : Str} (h : ofB G c f = true) : ∃ p ∈ G.ocs, p.name = c ∧ f ∈ p.flds := by
  unfold ofB at h
  rw [List.any_eq_true] at h
  obtain ⟨p, hp, e⟩ := h
  rw [Bool.and_eq_true] at e
  exact ⟨p, hp, of_decide_eq_true e.1, by simpa using e.2⟩
theorem mt_of {G : GT} {k n : Nat} {c m : Str} (h : mtB G k n c m = true) : G.mts.lookup k = some (c, m) ∧ ∃ x, G.fns[k]? = some (x, n) := by
  unfold mtB at h
  rw [Bool.and_eq_true] at h
  refine ⟨of_decide_eq_true h.1, ?_⟩
  have h2 := h.2
  split at h2
  · rename_i x np e
    exact ⟨x, by rw [e, of_decide_eq_true h2]⟩
  · cases h2
theorem twoG_of {G : GT} {c : Str} (h : ocB G c = true) : G.two = 1 := by
  obtain ⟨p, hp, _⟩ := oc_of h
  unfold GT.two
  cases e : G.ocs with
  | nil => rw [e] at hp; cases hp
  | cons a b => rfl
end Gu
end

section
set_option Elab.async false
set_option linter.all false
set_option maxRecDepth 100000
set_option maxHeartbeats 1000000
/-! Go1: methods called, instances made, what is raised wished for at the caller's slots. -/
namespace L2
open PySem PySem.Spec PyProof.Rows
section
variable {X : Cx} {CX : CXT} {k : Nat} {f C : Addr} {fd : FuncData} {ps : List Str} {sp : Sp} {E : St → XK} {x m : Str} {p pos apos : Pos} {e o : Expr} {es : List Expr} {ta : TE} {t : TA}
def tMethSo (C : Addr) (m : Str) (sp : Sp) (E : St → XK) (ta : TE) (t : TA) : TE := fun σ H Q => ta σ H fun x H1 => ∃ a dx fs, x = .ref a ∧ H1 a = some (.ins C dx fs) ∧ fs.lookup m = none ∧
  t σ H1 fun vs H2 => sp (x :: vs) H2 Q (E σ)
def tMakeSo (C : Addr) (sp : Sp) (E : St → XK) (t : TA) : TE := fun σ H Q => t σ H fun vs H1 => ∀ x dx, H1 x = none → H1 dx = none → dx ≠ x →
  sp (.ref x :: vs) (upd (upd H1 dx (.own x)) x (.ins C dx [])) (fun v H2 => v = .non ∧ Q (.ref x) H2) (E σ)
theorem pe_methSo {pl : Sem Bool} (he : PE X o ta) (c : Cls X.K C) (hm : Meth X.K C m f) (F : FnOk X.prog X.w X.K X.mg X.base CX k f fd ps sp) (hr : Room k X.A) (hb : Binds X.K fd ps []) (hx : ∀ σ, PassesAt CX X σ (E σ)) (ha : PA X (e :: es) t)
    (hst : starEach (e :: es) X.env = (false, eval e X.env) :: starEach es X.env) (hpl : (backTo pos (starEach es X.env)).any (·.1) = false)
    (ht : eval (.Call (.Attribute o m apos) (e :: es) [] pos) X.env = (do
      let ov ← eval o X.env
      standAt apos.atName
      let (f, first) ← holding [ov] (getMethod ov m pl)
      callWith pos f first (backTo pos (starEach (e :: es) X.env)) (backToKw pos (keywordEach [] X.env)))) :
    PE X (.Call (.Attribute o m apos) (e :: es) [] pos) (tMethSo C m sp E ta t) := by
  refine ⟨fun pins s σ H Q I h => ?_⟩
  refine PySem.W.methodCall_KW (pl := pl) (thn (he.run pins s σ H _ I h) fun u s1 ⟨x, H1, I1, rx, a, dx, fs, ex, ea, l, q⟩ => ?_) ht
  subst ex
  obtain rfl : u = Value.ref a := rx
  refine getmeth_ok I1 ea c hm l ?_
  refine PySem.W.callWith_K (first := [.ref a]) (h₀ := X.base) I.ok.mod.kin hm.kp (thn (ha.run pos pins s1 σ H1 _ I1 q) fun us s2 ⟨vs, H2, I2, r, q2⟩ => ⟨I2.kIn, ?_⟩) hst hpl
  exact run_fnS (us := .ref a :: us) (vs := .ref a :: vs) F hr hb (hx σ) I2 (.cons rfl r) q2
theorem pe_methSo0 {pl : Sem Bool} (he : PE X o ta) (c : Cls X.K C) (hm : Meth X.K C m f) (F : FnOk X.prog X.w X.K X.mg X.base CX k f fd ps sp) (hr : Room k X.A) (hb : Binds X.K fd ps []) (hx : ∀ σ, PassesAt CX X σ (E σ))
    (ht : eval (.Call (.Attribute o m apos) [] [] pos) X.env = (do
      let ov ← eval o X.env
      standAt apos.atName
      let (f, first) ← holding [ov] (getMethod ov m pl)
      callWith pos f first (backTo pos (starEach [] X.env)) (backToKw pos (keywordEach [] X.env)))) :
    PE X (.Call (.Attribute o m apos) [] [] pos) (tMethSo C m sp E ta tNil) := by
  refine ⟨fun pins s σ H Q I h => ?_⟩
  refine PySem.W.methodCall_KW (pl := pl) (thn (he.run pins s σ H _ I h) fun u s1 ⟨x, H1, I1, rx, a, dx, fs, ex, ea, l, q⟩ => ?_) ht
  subst ex
  obtain rfl : u = Value.ref a := rx
  refine getmeth_ok I1 ea c hm l ?_
  exact PySem.W.callWith_K0 (first := [.ref a]) I1.kIn hm.kp (run_fnS (us := [.ref a]) (vs := [.ref a]) F hr hb (hx σ) I1 (.cons rfl .nil) q)
theorem meth_tree {o : Expr} {m : Str} {apos pos : Pos} {args : List Expr} {env : Env} (hbase : attributeBase o m env (eval o env) = eval o env)
    (hfew : ((backTo pos (starEach args env)).all (fun x => !x.1) && (backToKw pos (keywordEach [] env)).all (fun x => x.1.isSome)
      && decide (args.length + ([] : List Keyword).length + (if ([] : List Keyword).isEmpty then 0 else 1) < 30)) = true) (hline : (apos.endLine == pos.line) = true) :
    eval (.Call (.Attribute o m apos) args [] pos) env = (do
      let ov ← eval o env
      standAt apos.atName
      let (f, first) ← holding [ov] (getMethod ov m (do return (← importBound o env).getD true))
      callWith pos f first (backTo pos (starEach args env)) (backToKw pos (keywordEach [] env))) := by
  rw [arm_eval_Call, hbase]
  have hform : methodCallForm (args.length + ([] : List Keyword).length) (backTo pos (starEach args env)) (backToKw pos (keywordEach [] env)) = true := hfew
  have hpos : methodCallPos true o env apos pos = pure pos := by unfold methodCallPos; simp [hline]
  unfold methodCall
  rw [hform, hpos]
  unfold calleeOf
  simp only [if_true, pure_bind]
theorem run_makeSo {pins : List (Addr × Obj)} {σ : St} {H : Hp} {s : Shared} {Q : VK} {us : List Value} {vs : List V} (M : Mk X.K C f) (F : FnOk X.prog X.w X.K X.mg X.base CX k f fd ps sp) (hr : Room (k + 1) X.A) (hb : Binds X.K fd ps [])
    (hx : PassesAt CX X σ (E σ)) (I : Inv X pins σ H s) (r : Vals vs us)
    (h : ∀ x dx, H x = none → H dx = none → dx ≠ x → sp (.ref x :: vs) (upd (upd H dx (.own x)) x (.ins C dx [])) (fun v H2 => v = .non ∧ Q (.ref x) H2) (E σ)) :
    wpAny (model X.prog X.w) X.A (call (.ref C) us) (EP X pins σ Q) X.xe s := by
  have hq := h (s.heap.objs.size + 1) s.heap.objs.size (I.hok.fresh (Nat.le_succ _)) (I.hok.fresh (Nat.le_refl _)) (Nat.ne_of_lt (Nat.lt_succ_self _))
  have I2 := Inv.made (C := C) I
  have r2 : Vals (V.ref (s.heap.objs.size + 1) :: vs) (Value.ref (s.heap.objs.size + 1) :: us) := .cons rfl r
  have hl : (Value.ref (s.heap.objs.size + 1) :: us).length = ps.length := by
    have e := r2.length
    rw [F.len _ _ _ _ hq] at e
    exact e.symm
  have b := hb _ (Value.ref (s.heap.objs.size + 1) :: us) I2.kIn (by rw [List.append_nil]; exact hl)
  rw [List.append_nil] at b
  refine wpAny_call (make_map (f := f) I.kIn M.makes M.init (beq_iff_eq.mp M.fn) (codeAny_mono (F.run _ X.stack _ _ ⟨Value.ref (s.heap.objs.size + 1) :: us, []⟩ (Value.ref (s.heap.objs.size + 1) :: us) _ _ (E σ) (hr.make C us [])
    (I2.env0.make C us []) b r2 hq) fun r s' hq' => ?_))
  cases r with
  | error e => exact hx pins _ _ e s' I2 hq'
  | ok fl =>
    cases fl with
    | ret u =>
      obtain ⟨v, H', I3, rv, ev, q3⟩ := I2.after hq'
      subst ev
      exact ⟨rv, ⟨V.ref (s.heap.objs.size + 1), H', I3, rfl, q3⟩⟩
    | next => exact False.elim hq'
    | brk => exact False.elim hq'
    | cont => exact False.elim hq'
theorem pe_makeSo (M : Mk X.K C f) (F : FnOk X.prog X.w X.K X.mg X.base CX k f fd ps sp) (hr : Room (k + 1) X.A) (hg : Gl X x) (hm : X.mg x = some (.ref C)) (hb : Binds X.K fd ps []) (hx : ∀ σ, PassesAt CX X σ (E σ))
    (ha : PA X (e :: es) t) (hdb : (x == ("__debug__" : Str)) = false) (he : starEach (e :: es) X.env = (false, eval e X.env) :: starEach es X.env) (hpl : (backTo pos (starEach es X.env)).any (·.1) = false) :
    PE X (.Call (.Name x p) (e :: es) [] pos) (tMakeSo C sp E t) := by
  refine ⟨fun pins s σ H Q I h => ?_⟩
  refine wpAny_Call_Name_kw (ld_glob I hg hm ?_ hdb)
  refine PySem.W.callWith_K (h₀ := X.base) I.ok.mod.kin M.kp (thn (ha.run pos pins s σ H _ I h) fun us s1 ⟨vs, H1, I1, r, q⟩ => ⟨I1.kIn, ?_⟩) he hpl
  exact run_makeSo (E := E) M F hr hb (hx σ) I1 r q
theorem pe_makeSo0 (M : Mk X.K C f) (F : FnOk X.prog X.w X.K X.mg X.base CX k f fd ps sp) (hr : Room (k + 1) X.A) (hg : Gl X x) (hm : X.mg x = some (.ref C)) (hb : Binds X.K fd ps []) (hx : ∀ σ, PassesAt CX X σ (E σ))
    (hdb : (x == ("__debug__" : Str)) = false) : PE X (.Call (.Name x p) [] [] pos) (tMakeSo C sp E tNil) := by
  refine ⟨fun pins s σ H Q I h => ?_⟩
  refine wpAny_Call_Name_kw (ld_glob I hg hm ?_ hdb)
  exact PySem.W.callWith_K0 I.kIn M.kp (run_makeSo (E := E) (us := []) M F hr hb (hx σ) I .nil h)
end
end L2
end

section
set_option Elab.async false
set_option linter.all false
set_option maxRecDepth 100000
/-! Gn: enumerate(x), x a list or a tuple (at the machine's side). -/
namespace Gu
open PySem PySem.Spec PyProof.Rows L2

set_option maxHeartbeats 1000000 in
theorem meets_enumerate_new1 {v : Value} {o : Obj} {H : Heap → Prop} (B : Begins v o H) :
    Meets (Builtin.«enumerate.__new__» ⟨[.type "enumerate", v], []⟩) (fun _ R s => H s.heap ∧
      R (.ok (.ret (.ref (s.heap.push o).objs.size))) { s with heap := (s.heap.push o).push { cls := .type "enumerate", data := .fields #[.none, .bool false, .ref s.heap.objs.size, rawInt 0, .none, .none] } }) :=
  .of_wp fun prog w A R s h => by
    obtain ⟨hp, g, d, tk, os⟩ := s; obtain ⟨h1, h⟩ := h
    have hsub := sub_enumerate
    have q1 : ∀ {A' : Around} {E : Value → Shared → Prop} {Q : Value → Shared → Prop}, Q (.ref hp.objs.size) ⟨hp.push o, g, d, tk, os⟩ → wpAny (model prog w) A' (pyIter v) Q E ⟨hp, g, d, tk, os⟩ :=
      fun q => B.iter prog w _ _ ⟨hp, g, d, tk, os⟩ _ h1 q
    wp_walk using q1
    refine wpAny_stack_any fun st => wpAny_pure ?_
    split
    · rename_i c _ _ _ _ _
      cases (c == Value.type "enumerate")
      · wp_walk using q1
        exact ⟨_, rfl, h⟩
      · wp_walk using q1
        exact ⟨_, rfl, h⟩
    · wp_walk using q1
      exact ⟨_, rfl, h⟩
theorem enum_begins1 {prog : Program} {w : World} {A : Around} {E : Value → Shared → Prop} {s : Shared} {v : Value} {o : Obj} {H : Heap → Prop} {Q : Value → Shared → Prop} (B : Begins v o H) (h1 : H s.heap)
    (h : ∀ h', IsEnum h' (s.heap.objs.size + 1) s.heap.objs.size 0 .none → h'.get? s.heap.objs.size = some o → h'.objs.size = s.heap.objs.size + 2 →
      (∀ b o, s.heap.get? b = some o → h'.get? b = some o) → Q (.ref (s.heap.objs.size + 1)) { s with heap := h' }) :
    wpAny (model prog w) A (call (.type "enumerate") [v]) Q E s := by
  refine callType_new F.called_enumerate (by decide) (F.typeCall_enumerate_1 _) (F.newCall_enumerate_1 _) (fun obj => F.args_object_init_2 obj _) F.entry_enumerate_new
    (meets_enumerate_new1 B) ⟨h1, ?_⟩
  have hz : (s.heap.push o).objs.size = s.heap.objs.size + 1 := Heap.size_push ..
  show _ ∧ _
  rw [hz]
  have he : IsEnum ((s.heap.push o).push { cls := .type "enumerate", data := .fields #[.none, .bool false, .ref s.heap.objs.size, rawInt 0, .none, .none] }) (s.heap.objs.size + 1) s.heap.objs.size 0 .none := by
    have := Heap.get?_push_size (s.heap.push o) (o := { cls := .type "enumerate", data := .fields #[.none, .bool false, .ref s.heap.objs.size, rawInt 0, .none, .none] }) rfl
    rw [hz] at this; exact this
  refine ⟨⟨_, he, rfl⟩, h _ he (Heap.get?_push_of_some _ (Heap.get?_push_size _ B.free)) (by rw [Heap.size_push, hz]) fun b o x => Heap.get?_push_of_some _ (Heap.get?_push_of_some _ x)⟩
/-- the tuple at a, each item in a new pair -/
def IteT (K : PySem.W.Frag) (a : Addr) : It :=
  ⟨fun i H => ∃ (xs : List V) (x : V), SqT K H a xs ∧ xs[i]? = some x, fun i H v H' => ∃ T x, v = .ref T ∧ H T = none ∧ H' = upd H T (.tup [.int (i : Nat), x]) ∧ ∀ xs, SqT K H a xs → xs[i]? = some x, fun i H => ∃ xs : List V, SqT K H a xs ∧ xs.length ≤ i⟩
theorem turn_enumT {P : Program} {w : World} {K : PySem.W.Frag} {elts : List Expr} {kk : Nat} {tpos : Pos} (a e it : Addr) :
    Turn P w K (.Tuple elts kk tpos) (IteT K a) [e, it] e (fun i h => (∃ old, IsEnum h e it ((i : Nat) : Int) old) ∧ h.IsTupleIter it a i ∧ e ≠ it ∧ a ≠ it ∧ a ≠ e) where
  mem := by simp
  obj := fun i h st b hb => by
    obtain ⟨⟨old, he⟩, ⟨o, ho, hc, hd⟩, _⟩ := st
    have e' : b = e ∨ b = it := by simpa using hb
    rcases e' with z | z
    · rw [z]; exact ⟨_, he, fun v q => nomatch q⟩
    · rw [z]; exact ⟨o, ho, fun v q => by rw [hd] at q; cases q⟩
  keep := fun i h h' st k => let ⟨⟨old, he⟩, ⟨o, ho, hc, hd⟩, hne⟩ := st; ⟨⟨old, k e (by simp) _ he⟩, ⟨o, k it (by simp) o ho, hc, hd⟩, hne⟩
  item := by
    intro X hP hw hK hc i pins s σ H E I hf st hg
    subst hP hw hK
    obtain ⟨⟨old, he⟩, hit, hne, hai, hae⟩ := st
    obtain ⟨xs, x, hq, hx⟩ := hg
    obtain ⟨its, rv, p, hz⟩ := I.tuple hq
    have p' : s.heap.IsTuple a its.toArray := p
    obtain ⟨u, hu, ru⟩ := rv.get hx
    have hel : e < s.heap.objs.size := Heap.lt_size he
    have hil : it < s.heap.objs.size := by obtain ⟨_, q, _⟩ := hit; exact Heap.lt_size q
    have D := Draws.tuple (prog := X.prog) (w := X.w) (A := X.A.in1) (I.ok.hd hc) it a hai its.toArray
    obtain ⟨hin, _⟩ := List.getElem?_eq_some_iff.mp hu
    refine wpAny_pyNext_enum_itemC D he ⟨hit, p'⟩ (by simpa using hin) hne (by simp only [List.mem_cons, List.not_mem_nil, or_false, not_or]; exact ⟨hne, Ne.symm hae⟩) fun x' h' tk hx' ho hit' hT hsz hk => ?_
    have ex : x' = u := by
      have e1 : its[i]? = some x' := by simpa using hx'
      rw [hu] at e1
      exact (Option.some.inj e1).symm
    subst ex
    refine ⟨_, rfl, wpAny_letOwnedTupleGo_enum (s := { s with heap := h', toks := tk + 1 }) ho fun h'' he' sb => ?_⟩
    have hT2 : h''.get? s.heap.objs.size = some { cls := .type "tuple", data := .seq #[.int i tk, x'] } := (sb.2 _ (Nat.ne_of_gt hel)).trans hT
    have new : ObjOk X.prog X.w (upd H s.heap.objs.size (.tup [.int (i : Nat), x])) h'' s.heap.objs.size (.tup [.int (i : Nat), x]) :=
      ⟨by show 2 ≤ sizeLine; decide, [.int i tk, x'], .cons ⟨_, rfl⟩ (.cons ru .nil), ⟨_, hT2, rfl, _, rfl⟩⟩
    have I1 : Inv X pins σ (upd H s.heap.objs.size (.tup [.int (i : Nat), x])) { s with heap := h'', toks := tk + 1 } :=
      I.turnedNew (ch := [e, it]) (fun b ob hb q => (sb.2 b (fun z => hb (by simp [z]))).trans (hk b ob (fun z => hb (by simp [z])) (fun z => hb (by simp [z])) q)) hf (Nat.le_refl _) new
    refine ⟨.ref s.heap.objs.size, _, I1, rfl, ⟨_, x, rfl, I.hok.fresh (Nat.le_refl _), rfl, fun ys hy => by rw [I.tuple_inj hy hq]; exact hx⟩, ⟨⟨x', ?_⟩, ?_, hne, hai, hae⟩, fun b hb => ?_⟩
    · have e1 : ((i + 1 : Nat) : Int) = (i : Int) + 1 := by omega
      rw [e1]; exact he'
    · obtain ⟨o, q1, q2, q3⟩ := hit'.1
      exact ⟨o, (sb.2 it (Ne.symm hne)).trans q1, q2, q3⟩
    · have hb' : b < s.heap.objs.size := by
        have e' : b = e ∨ b = it := by simpa using hb
        rcases e' with z | z
        · rw [z]; exact hel
        · rw [z]; exact hil
      rw [upd_ne (Nat.ne_of_lt hb')]
      exact (hf b hb).1
  done := by
    intro X hP hw hK hc i pins s σ H E I hf st hg
    subst hP hw hK
    obtain ⟨⟨old, he⟩, hit, hne, hai, hae⟩ := st
    obtain ⟨xs, hq, hx⟩ := hg
    obtain ⟨its, rv, p, hz⟩ := I.tuple hq
    have p' : s.heap.IsTuple a its.toArray := p
    obtain ⟨f0, f1, f2, f3, f4, f5⟩ := hf it (by simp)
    have hl := rv.length
    have D : Draws X.prog X.w X.A.in1 it [it, a] i (fun _ _ => True) (fun j h => j = i ∧ h.IsTupleIter it a i ∧ h.IsTuple a its.toArray) :=
      { live := fun _ _ st => let ⟨o, ho, _⟩ := st.2.1; ⟨o, ho⟩
        frame := fun _ _ _ st hk => ⟨st.1, st.2.1.at fun o e => hk it (by simp) o e, st.2.2.at fun o e => hk a (by simp) o e⟩
        item := fun j s Q E hj st _ => absurd st.1 (Nat.ne_of_lt hj)
        done := fun s Q E st hE => RZ.nextOf_tuple_end (I.ok.hd hc) st.2.1 st.2.2 (by simp; omega) hE }
    exact wpAny_pyNext_enum_endD D he ⟨rfl, hit, p'⟩ fun h' eb => ⟨rfl, I.turned (t' := s.toks) (fun b o hb q => eb b o hb q) f0 f1 f3 f4 f5⟩
  self := fun A i s Q E st h => let ⟨⟨_, he⟩, _⟩ := st; wpAny_pyIter_enum he h
/-- enumerate(x), x a list or a tuple -/
def iEnumA (K : PySem.W.Frag) (ta : TA) : TI := fun σ H R => ta σ H fun vs H1 => (∃ a xs, vs = [.ref a] ∧ SqL K H1 a xs ∧ R (Ite K a) H1) ∨ ∃ a xs, vs = [.ref a] ∧ SqT K H1 a xs ∧ R (IteT K a) H1
theorem pi_enumA {X : Cx} {e : Expr} {ta : TA} {p pos tpos : Pos} {elts : List Expr} {kk : Nat} (hg : Gl X "enumerate") (hm : X.mg "enumerate" = none) (ha : PA X [e] ta) (hs : starEach [e] X.env = [(false, eval e X.env)] := by rfl) :
    PI X (.Tuple elts kk tpos) (.Call (.Name "enumerate" p) [e] [] pos) (iEnumA X.K ta) := by
  refine ⟨fun pins s σ H R I h => ?_⟩
  refine Call_ (ld_blt I hg hm boot_enumerate (PyProof.Rows.callWith_type1 (thn (ha.run pos pins s σ H _ I h) fun us s1 ⟨vs, H1, I1, r1, q1⟩ => ?_) hs rfl))
  have hb2 : ∀ b, b ∈ [s1.heap.objs.size + 1, s1.heap.objs.size] → s1.heap.objs.size ≤ b := fun b hb => by
    have e' : b = s1.heap.objs.size + 1 ∨ b = s1.heap.objs.size := by simpa using hb
    rcases e' with z | z
    · rw [z]; exact Nat.le_add_right _ _
    · rw [z]; exact Nat.le_refl _
  rcases q1 with ⟨a, xs, ex, hq, q⟩ | ⟨a, xs, ex, hq, q⟩
  · subst ex
    cases r1 with
    | cons r rr =>
      cases rr
      cases r
      obtain ⟨its, rv, p', hz⟩ := I1.list hq
      refine call_enumerate_list p'.isList fun h' he hit hsz hk => wpAny_pyIter_enum he ?_
      have I2 : Inv X pins σ H1 { s1 with heap := h' } := I1.kept (t' := s1.toks) hk
      exact ⟨s1.heap.objs.size + 1, [s1.heap.objs.size + 1, s1.heap.objs.size], _, _, H1, rfl, I2, turn_enum a (s1.heap.objs.size + 1) s1.heap.objs.size, ⟨⟨.none, he⟩, hit, Nat.succ_ne_self _⟩, fun b hb => I1.fpOk (hb2 b hb) (I1.hok.fresh (hb2 b hb)), q⟩
  · subst ex
    cases r1 with
    | cons r rr =>
      cases rr
      cases r
      obtain ⟨its, rv, p', hz⟩ := I1.tuple hq
      have p2 : s1.heap.IsTuple a its.toArray := p'
      have hlt : a < s1.heap.objs.size := by obtain ⟨_, q, _⟩ := p2; exact Heap.lt_size q
      refine enum_begins1 (begins_tuple a its.toArray) p2 fun h' he hit hsz hk => wpAny_pyIter_enum he ?_
      have I2 : Inv X pins σ H1 { s1 with heap := h' } := I1.kept (t' := s1.toks) hk
      exact ⟨s1.heap.objs.size + 1, [s1.heap.objs.size + 1, s1.heap.objs.size], _, _, H1, rfl, I2, turn_enumT a (s1.heap.objs.size + 1) s1.heap.objs.size, ⟨⟨.none, he⟩, ⟨_, hit, rfl, rfl⟩, Nat.succ_ne_self _, Nat.ne_of_lt hlt, Nat.ne_of_lt (Nat.lt_succ_of_lt hlt)⟩, fun b hb => I1.fpOk (hb2 b hb) (I1.hok.fresh (hb2 b hb)), q⟩
end Gu
end

section
set_option Elab.async false
set_option linter.all false
set_option maxRecDepth 100000
/-! Gu7: expressions are sound. -/
namespace Gu
open PySem PySem.Spec PyProof.Rows L2

/-! ### slots -/
structure Slots (K : PySem.W.Frag) (H : Hp) (L : List Addr) (ρ : Rho) (σ : L2.St) : Prop where
  len : ρ.length = σ.length
  at_ : ∀ (i : Nat) (v : Val), ρ[i]? = some (some v) → ∃ x, σ[i]? = some (some x) ∧ RV K H L v x
section
variable {K : PySem.W.Frag} {H H' : Hp} {L L' : List Addr} {ρ : Rho} {σ : L2.St}
theorem Slots.mono (r : Slots K H L ρ σ) (x : Ext K H L H' L') : Slots K H' L' ρ σ := ⟨r.len, fun i v e => by
  obtain ⟨y, h1, h2⟩ := r.at_ i v e
  exact ⟨y, h1, RV.mono x v y h2⟩⟩
theorem Slots.set (r : Slots K H L ρ σ) (i : Nat) {v : Val} {x : V} (h : RV K H L v x) : Slots K H L (ρ.set i (some v)) (σ.set i (some x)) := ⟨by simp [r.len], fun j w e => by
  by_cases hj : i = j
  · subst hj
    by_cases hi : i < ρ.length
    · rw [List.getElem?_set_self hi] at e
      cases e
      exact ⟨x, List.getElem?_set_self (by rw [← r.len]; exact hi), h⟩
    · rw [List.getElem?_eq_none (by simpa using hi)] at e
      cases e
  · rw [List.getElem?_set_ne hj] at e ⊢
    exact r.at_ j w e⟩
theorem Slots.wipe (r : Slots K H L ρ σ) : ∀ vs : List Nat, Slots K H L (wipeR ρ vs) (L2.wipe σ vs)
  | [] => r
  | v :: vs => by
    have ih := Slots.wipe r vs
    refine ⟨by simp [wipeR, L2.wipe, ih.len], fun j w e => ?_⟩
    unfold wipeR at e
    unfold L2.wipe
    by_cases hj : v = j
    · subst hj
      by_cases hi : v < (wipeR ρ vs).length
      · rw [List.getElem?_set_self hi] at e; cases e
      · rw [List.getElem?_eq_none (by simpa using hi)] at e; cases e
    · rw [List.getElem?_set_ne hj] at e ⊢
      exact ih.at_ j w e
end

/-! ### what an expression asks -/
section
variable (K : PySem.W.Frag) (W : L2.St → XW) (call : CallT)
def tV (e : E) : TE := fun σ H Q => ∃ ρ h L, Slots K H L ρ σ ∧ HR K H L h ∧ outV K (W σ) H L ((ev call e).v ρ h) (fin1 K Q)
def tA (e : E) : TA := fun σ H Q => ∃ ρ h L, Slots K H L ρ σ ∧ HR K H L h ∧ outV K (W σ) H L ((ev call e).a ρ h) fun vs _ H' L' => ∀ xs, RVs K H' L' vs xs → Q xs H'
def tT (e : E) : TT := fun σ H Q => ∃ ρ h L, Slots K H L ρ σ ∧ HR K H L h ∧ outV K (W σ) H L ((ev call e).t ρ h) fun b _ H' _ => Q b H'
def tO (e : E) : TO := fun σ H Q => ∃ ρ h L, Slots K H L ρ σ ∧ HR K H L h ∧ outV K (W σ) H L ((ev call e).o ρ h) fun o _ H' _ => Q o H'
/-- what is walked -/
def ItR (H : Hp) (L : List Addr) : Items → It → Prop
  | .vals xs, J => (∃ a ys, J = Itt K a ∧ SqT K H a ys ∧ RVs K H L xs ys) ∨ (∃ a ys, J = Itl K a ∧ SqF K H a ys ∧ RVs K H L xs ys) ∨ ∃ s, J = Its (toS s) ∧ okS s ∧ xs = s.map fun c => Val.str [c]
  | .live n _, J => ∃ a, J = Itl K a ∧ L[n]? = some a
  | .rng lo n, J => J = Itr lo n
  | .enm n _, J => ∃ a, J = Ite K a ∧ L[n]? = some a
  | .enmT xs, J => ∃ a ys, J = IteT K a ∧ SqT K H a ys ∧ RVs K H L xs ys
def tI (e : E) : TI := fun σ H R => ∃ ρ h L, Slots K H L ρ σ ∧ HR K H L h ∧ outV K (W σ) H L ((ev call e).i ρ h) fun it _ H' L' => ∀ J, ItR K H' L' it J → R J H'
end
/-- a def's promise -/
def noW : L2.St → XW := fun _ _ _ _ _ _ => False
/-- what is wished of an exception, from what the small language says of it -/
def wxOf (K : PySem.W.Frag) (G : GT) (W : L2.St → XW) : WX := fun cls d σ H => ∃ c as h L, XR K G c as cls d H ∧ HR K H L h ∧ W σ c as h H L
def exW (K : PySem.W.Frag) (G : GT) (E : XK) : XW := fun c as _ H _ => ∀ cls d, XR K G c as cls d H → E cls d H
theorem takes_noW {X : Cx} {K : PySem.W.Frag} {G : GT} : Takes X (wxOf K G noW) := Takes.imp (W := fun _ _ _ _ => False) (fun u s' x => by
  obtain ⟨_, _, _, _, _, _, _, _, _, _, _, _, _, _, _, _, z⟩ := x
  exact z.elim) fun c d σ H ⟨_, _, _, _, _, _, z⟩ => z
def spG (K : PySem.W.Frag) (G : GT) (call : CallT) (f np : Nat) : Sp := fun vs H Q E => vs.length = np ∧ ∃ gvs h L, HR K H L h ∧ RVs K H L gvs vs ∧ outV K (exW K G E) H L (call f gvs h) (fin1 K Q)
def bnames : List Str := ["len", "int", "str", "list", "tuple", "bool", "range", "isinstance", "sum", "max", "min", "abs", "any", "all", "enumerate", "sorted", "dict", "ord", "ValueError"]
structure XOk (G : GT) (N : List Str) (call : CallT) (fo : Option Scope) (sc : Scope) (X : Cx) (W : L2.St → XW) : Prop where
  names : X.N = N
  nd : N.Nodup
  calm : X.calm = true
  sc : X.env.scope = sc
  fn : ∀ x, fcB fo x = true → X.env.scope.names.lookup x = some .cell → X.fn x = true
  un : X.A.units + 164 < cLine
  hp : PassesOwn (model X.prog X.w) X.A X.env X.xe
  unb : ∀ x ∈ bnames, X.mg x = none
  glb : ∀ x v, G.gcs.lookup x = some v → ∃ u y, X.mg x = some u ∧ RelV y u ∧ ∀ H L, RV X.K H L v y
  len : ∀ f x np (gvs : List Val) h, G.fns[f]? = some (x, np) → gvs.length ≠ np → call f gvs h = .no
  tk : Takes X (wxOf X.K G W)
  dp : X.A.depth + 1 < recursionLimit
  xs : XFacts X.prog X.K X.mg G
  os : OFacts X.K X.mg G
  fns : ∀ f x np, G.fns[f]? = some (x, np) → ∃ fa fd ps k, FnOk X.prog X.w X.K X.mg X.base (L2.CX X.prog X.w) k fa fd ps (spG X.K G call f np) ∧ Room (k + G.two) X.A ∧ Role X.K X.mg G f x fa ∧ PySem.W.keepIn X.K (.ref fa) = true ∧ Binds X.K fd ps [] ∧ ps.length = np
theorem XOk.no {G : GT} {N : List Str} {call : CallT} {fo : Option Scope} {sc : Scope} {X : Cx} {W : L2.St → XW} (ok : XOk G N call fo sc X W) : XOk G N call fo sc X noW := { ok with tk := takes_noW }
section
variable {X : Cx}
theorem PE.imp {e : Expr} {t t' : TE} (h : PE X e t) (i : ∀ σ H Q, t' σ H Q → t σ H Q) : PE X e t' := ⟨fun pins s σ H Q I q => h.run pins s σ H Q I (i _ _ _ q)⟩
theorem PT.imp {e : Expr} {t t' : TT} (h : PT X e t) (i : ∀ σ H Q, t' σ H Q → t σ H Q) : PT X e t' := ⟨fun pins s σ H Q I q => h.run pins s σ H Q I (i _ _ _ q)⟩
theorem PW.imp {e : Expr} {t t' : TT} (h : PW X e t) (i : ∀ σ H Q, t' σ H Q → t σ H Q) : PW X e t' := ⟨fun wh pins s σ H Q I q => h.run wh pins s σ H Q I (i _ _ _ q)⟩
theorem PA.imp {e : List Expr} {t t' : TA} (h : PA X e t) (i : ∀ σ H Q, t' σ H Q → t σ H Q) : PA X e t' := ⟨fun p pins s σ H Q I q => h.run p pins s σ H Q I (i _ _ _ q)⟩
theorem PO.imp {e : Option Expr} {t t' : TO} (h : PO X e t) (i : ∀ σ H Q, t' σ H Q → t σ H Q) : PO X e t' := ⟨fun pins s σ H Q I q => h.run pins s σ H Q I (i _ _ _ q)⟩
theorem PI.imp {tg e : Expr} {t t' : TI} (h : PI X tg e t) (i : ∀ σ H Q, t' σ H Q → t σ H Q) : PI X tg e t' := ⟨fun pins s σ H Q I q => h.run pins s σ H Q I (i _ _ _ q)⟩
theorem PTs.imp {e : List Expr} {t t' : TT} (h : PTs X e t) (i : ∀ σ H Q, t' σ H Q → t σ H Q) : PTs X e t' := ⟨fun pins s σ H Q I q => h.run pins s σ H Q I (i _ _ _ q)⟩
theorem PE.absurd {e : Expr} {t : TE} (i : ∀ σ H Q, ¬ t σ H Q) : PE X e t := ⟨fun _ _ _ _ _ _ q => (i _ _ _ q).elim⟩
theorem PT.absurd {e : Expr} {t : TT} (i : ∀ σ H Q, ¬ t σ H Q) : PT X e t := ⟨fun _ _ _ _ _ _ q => (i _ _ _ q).elim⟩
theorem PI.absurd {tg e : Expr} {t : TI} (i : ∀ σ H Q, ¬ t σ H Q) : PI X tg e t := ⟨fun _ _ _ _ _ _ q => (i _ _ _ q).elim⟩
theorem star_cons {e : Expr} {es : List Expr} {env : Env} (h : noStar e = true) : starEach (e :: es) env = (false, eval e env) :: starEach es env := by
  cases e <;> first | rfl | (cases h)
theorem star_plain {env : Env} {pos : Pos} : ∀ {es : List Expr}, es.all noStar = true → (backTo pos (starEach es env)).any (·.1) = false
  | [], _ => rfl
  | e :: es, h => by
    rw [List.all_cons, Bool.and_eq_true] at h
    rw [star_cons h.1]
    show (false || (backTo pos (starEach es env)).any (·.1)) = false
    rw [star_plain h.2]; rfl
theorem mark_of {op : CmpOp} {e : Expr} (h : noSet e = true) : behindInMarks op e = false := by
  cases e <;> first | rfl | (cases h)
theorem ix_of {e : Expr} (h : noSl e = true) : PlainIx e := by
  intro o i
  cases e <;> first | rfl | (cases h)
theorem set_of {e : Expr} {env : Env} (h : noSet e = true) : ∀ x, foldedSetIterable e env x = pure x := by
  intro x
  cases e <;> first | rfl | (cases h)
theorem base_of {o : Expr} {n : Str} {env : Env} {whole : Sem Value} (h : noSuper o = true) : attributeBase o n env whole = whole := by
  unfold attributeBase
  split
  · rename_i x p q
    have hx : (x != ("super" : Str)) = true := h
    simp only [hx, Bool.true_or, if_true]
  · rfl
theorem test_of {e : Expr} (h : plainT e = true) {env : Env} : ∀ whole, isTrue e env whole = (do let v ← whole; standAt e.pos; holding [v] (truthy v)) := by
  intro whole
  cases e <;> first | rfl | (cases h) | (rename_i op _ _; cases op <;> first | rfl | (cases h))
end
end Gu
end

section
set_option Elab.async false
set_option linter.all false
set_option maxRecDepth 100000
set_option maxHeartbeats 2000000
/-! Gc: list comprehensions with any number of fors. -/
namespace Gu
open PySem PySem.Spec PyProof.Rows L2
section
variable {elt t i : Expr} {gs : List Comprehension} {ifs : List Expr} {scope : Scope} {pos : Pos} {it acc : Value} {env : Env} {k : Nat}
theorem turnIn (hk : gs[k]? = some ⟨t, i, ifs, 0⟩) (hn : gs[k + 1]? = none) :
    compTurn (.ListComp elt gs scope pos) k it acc env = (do
      standAt i.pos
      match ← pyNext it with
      | none => pure (.done .next)
      | some v =>
        letOwnedTupleGo t it v
        assign t env v
        let mut ok := true
        for c in ifs do
          if ok then ok ← isTrue c env (eval c env)
        if ok then
          (do let _ ← call (.builtin "list.append") [acc, ← eval elt env])
        again (.compLoop (.ListComp elt gs scope pos) k it acc env)) := by
  unfold compTurn
  simp only [hk, hn]
  rfl
theorem turnOut {t1 i1 : Expr} {ifs1 : List Expr} (hk : gs[k]? = some ⟨t, i, ifs, 0⟩) (hn : gs[k + 1]? = some ⟨t1, i1, ifs1, 0⟩) :
    compTurn (.ListComp elt gs scope pos) k it acc env = (do
      standAt i.pos
      match ← pyNext it with
      | none => pure (.done .next)
      | some v =>
        letOwnedTupleGo t it v
        assign t env v
        let mut ok := true
        for c in ifs do
          if ok then ok ← isTrue c env (eval c env)
        if ok then
          let x ← eval i1 env
          standAt i1.pos
          let x ← foldedSetIterable i1 env x
          let _ ← runOwn (.compStart (.ListComp elt gs scope pos) (k + 1) (← holding [x] (pyIter x)) acc env) env
        again (.compLoop (.ListComp elt gs scope pos) k it acc env)) := by
  unfold compTurn
  simp only [hk, hn]
  rfl
end
section
variable {prog : Program} {w : World} {A : Around} {R : Result → Shared → Prop} {s : Shared} {elt t i : Expr} {gs : List Comprehension} {ifs : List Expr} {scope : Scope} {pos : Pos} {it acc : Value} {env : Env} {k : Nat}
/-- what a turn does behind its tests -/
def bodyOk (prog : Program) (w : World) (A : Around) (elt : Expr) (gs : List Comprehension) (scope : Scope) (pos : Pos) (k : Nat) (acc : Value) (env : Env) (Q : Shared → Prop) (Er : Value → Shared → Prop) (s : Shared) : Prop :=
  match gs[k + 1]? with
  | none => wpAny (model prog w) A (eval elt env) (fun x s₄ => wpAny (model prog w) A (call (.builtin "list.append") [acc, x]) (fun _ s₅ => Q s₅) Er s₄) Er s
  | some g => wpAny (model prog w) A (eval g.iter env) (fun x s₄ => wpAny (model prog w) A (pyIter x) (fun it1 s₅ =>
      codeAny (model prog w) A (.compStart (.ListComp elt gs scope pos) (k + 1) it1 acc env) (fun r s' => match r with | .ok _ => Q s' | .error _ => False) s₅) Er s₄) Er s
theorem loopG (hk : gs[k]? = some ⟨t, i, ifs, 0⟩) (hs : ∀ g, gs[k + 1]? = some g → g.is_async = 0 ∧ ∀ x, foldedSetIterable g.iter env x = pure x) (I : Nat → Shared → Prop)
    (turn : ∀ n s, I n s → wpAny (model prog w) A (pyNext it) (fun r s₁ => match r with
      | none => R (.ok .next) s₁
      | some v => wpAny (model prog w) A (letOwnedTupleGo t it v) (fun _ s₁' => wpAny (model prog w) A (assign t env v) (fun _ s₂ =>
          wpAny (model prog w) A (forIn ifs true fun c r => if r = true then do let ok ← isTrue c env (eval c env); pure (ForInStep.yield ok) else pure (ForInStep.yield r)) (fun ok s₃ =>
            if ok = true then bodyOk prog w A elt gs scope pos k acc env (fun s₅ => ∃ m, m < n ∧ I m s₅) (notedBy (model prog w) A env fun e s' => R (.error e) s') s₃
            else ∃ m, m < n ∧ I m s₃) (notedBy (model prog w) A env fun e s' => R (.error e) s') s₂) (notedBy (model prog w) A env fun e s' => R (.error e) s') s₁') (notedBy (model prog w) A env fun e s' => R (.error e) s') s₁) (notedBy (model prog w) A env fun e s' => R (.error e) s') s)
    (n : Nat) (h : I n s) :
    codeAny (model prog w) A (.compLoop (.ListComp elt gs scope pos) k it acc env) R s := by
  refine codeAny_loop rfl I (fun n s hI => ?_) n h
  show wpAny _ A ((compTurn (.ListComp elt gs scope pos) k it acc env).onRaise (fun x => do noteFrame x env; theTreesLotGoes x)) _ _ s
  refine wpAny_noted ?_
  cases hn : gs[k + 1]? with
  | none =>
    rw [turnIn hk hn]
    refine wpAny_bind (wpAny_standAt (wpAny_bind (wpAny_mono (turn n s hI) (fun r s₁ h₁ => ?_) fun _ _ h' => h')))
    cases r with
    | none => exact wpAny_pure h₁
    | some v =>
      refine wpAny_bind (wpAny_mono h₁ (fun _ s₁' h₁' => ?_) fun _ _ h' => h')
      refine wpAny_bind (wpAny_mono h₁' (fun _ s₂ h₂ => wpAny_bind (wpAny_mono h₂ (fun ok s₃ h₃ => ?_) fun _ _ h' => h')) fun _ _ h' => h')
      cases ok with
      | false => exact wpAny_pure ⟨rfl, h₃⟩
      | true =>
        simp only [if_true, bodyOk, hn] at h₃
        exact wpAny_bind (wpAny_bind (wpAny_mono h₃ (fun x s₄ h₄ => wpAny_bind (wpAny_mono h₄ (fun _ s₅ h₅ => wpAny_pure (wpAny_pure ⟨rfl, h₅⟩)) fun _ _ h' => h')) fun _ _ h' => h'))
  | some g =>
    obtain ⟨t1, i1, ifs1, ia⟩ := g
    obtain ⟨rfl, hs⟩ := hs _ hn
    rw [turnOut hk hn]
    refine wpAny_bind (wpAny_standAt (wpAny_bind (wpAny_mono (turn n s hI) (fun r s₁ h₁ => ?_) fun _ _ h' => h')))
    cases r with
    | none => exact wpAny_pure h₁
    | some v =>
      refine wpAny_bind (wpAny_mono h₁ (fun _ s₁' h₁' => ?_) fun _ _ h' => h')
      refine wpAny_bind (wpAny_mono h₁' (fun _ s₂ h₂ => wpAny_bind (wpAny_mono h₂ (fun ok s₃ h₃ => ?_) fun _ _ h' => h')) fun _ _ h' => h')
      cases ok with
      | false => exact wpAny_pure ⟨rfl, h₃⟩
      | true =>
        simp only [if_true, bodyOk, hn] at h₃
        refine wpAny_bind (wpAny_mono h₃ (fun x s₄ h₄ => ?_) fun _ _ h' => h')
        refine wpAny_bind (wpAny_standAt (wpAny_bind (wpAny_of_eq (hs x) (wpAny_bind (wpAny_holding (wpAny_mono h₄ (fun it1 s₅ h₅ => ?_) fun _ _ h' => h'))))))
        refine wpAny_bind (wpAny_runOwn ?_)
        rw [Around.mark_none]
        refine codeAny_mono h₅ fun r s' hr => ?_
        cases r with
        | ok f =>
          first
            | exact wpAny_pure ⟨rfl, hr⟩
            | exact wpAny_bind (wpAny_pure (wpAny_pure ⟨rfl, hr⟩))
        | error e => exact hr.elim
/-- a clause's start -/
theorem startG (hk : gs[k]? = some ⟨t, i, ifs, 0⟩) (h0 : codeAny (model prog w) A (.compLoop (.ListComp elt gs scope pos) k it acc env) R s)
    (h : wpAny (model prog w) A (pyIter it) (fun it' s' => codeAny (model prog w) A (.compLoop (.ListComp elt gs scope pos) k it' acc env) R s')
      (notedBy (model prog w) A env fun x s' => R (.error x) s') s) :
    codeAny (model prog w) A (.compStart (.ListComp elt gs scope pos) k it acc env) R s := by
  refine codeAny_of_tree ?_
  show wpAny _ _ ((compStart (.ListComp elt gs scope pos) k it acc env).onRaise (fun x => do noteFrame x env; standAt theWindowsPlace)) _ _ s
  refine wpAny_notedAt ?_
  unfold compStart
  have e : (clausesOf (.ListComp elt gs scope pos))[k]? = some ⟨t, i, ifs, 0⟩ := hk
  rw [e]
  show wpAny _ _ (ask >>= _) _ _ s
  refine wpAny_bind (wpAny_askSetting (wpAny_ite ?_))
  split
  · first
      | exact wpAny_bind (wpAny_pure (wpAny_pure (And.intro rfl h0)))
      | exact wpAny_pure (And.intro rfl h0)
  · first
      | exact wpAny_bind (wpAny_rule (wpAny_bind (wpAny_standAt (wpAny_bind (wpAny_mono h (fun it' s' h' => wpAny_pure (And.intro rfl h')) fun _ _ x => x)))))
      | (refine wpAny_bind (wpAny_rule ?_); show wpAny _ _ (standAt i.pos >>= _) _ _ s; exact wpAny_bind (wpAny_standAt (wpAny_bind (wpAny_mono h (fun it' s' h' => wpAny_pure (And.intro rfl h')) fun _ _ x => x))))
end
end Gu
end

section
set_option Elab.async false
set_option linter.all false
set_option maxRecDepth 100000
set_option maxHeartbeats 2000000
/-! Gd: list comprehensions with any number of fors: the rule. -/
namespace Gu
open PySem PySem.Spec PyProof.Rows L2
structure Cl where
  wi : TI
  g : TG
  tt : TT
  vs : List Nat
/-- the clauses behind the first, then the item -/
def tIn (te : TE) (D : Addr) : List Cl → L2.St → Hp → (Hp → Prop) → Prop
  | [], σ, H, Nx => te σ H fun y H7 => ∃ acc, H7 D = some (.lst acc) ∧ acc.length < sizeLine ∧ Nx (upd H7 D (.lst (acc ++ [y])))
  | c :: cs, σ, H, Nx => c.wi σ H fun J H4 => ∃ W : Nat → Nat → Hp → Prop, (∃ m, W 0 m H4) ∧ ∀ j k H, W j k H →
      (J.stop j H ∧ Nx H) ∨ (J.go j H ∧ ∃ Nx1 : Hp → Prop, (∀ H', Nx1 H' → ∃ k', k' < k ∧ W (j + 1) k' H') ∧ ∀ x H', J.yld j H x H' → c.g x (L2.wipe σ c.vs) H' fun σ3 H5 => L2.wipe σ3 c.vs = L2.wipe σ c.vs ∧ c.tt σ3 H5 fun b H6 =>
        if b = true then tIn te D cs σ3 H6 Nx1 else Nx1 H6)
/-- the clauses' rules, in a block's context -/
inductive ClsOk (X : Cx) (gs : List Comprehension) : Nat → List Nat → List Cl → Prop
  | nil {k : Nat} {vs : List Nat} : gs[k]? = none → ClsOk X gs k vs []
  | cons {k : Nat} {vs : List Nat} {c : Cl} {cs : List Cl} {tg it : Expr} {ifs : List Expr} : gs[k]? = some ⟨tg, it, ifs, 0⟩ → PI X tg it c.wi → PG X tg c.g → PTs X ifs c.tt → (∀ env x, foldedSetIterable it env x = pure x) →
      (∀ i ∈ c.vs, i ∈ vs) → ClsOk X gs (k + 1) c.vs cs → ClsOk X gs k vs (c :: cs)
theorem ClsOk.next {X : Cx} {gs : List Comprehension} {k : Nat} {vs : List Nat} {cs : List Cl} (h : ClsOk X gs k vs cs) : ∀ env g, gs[k]? = some g → g.is_async = 0 ∧ ∀ x, foldedSetIterable g.iter env x = pure x := by
  intro env g e
  cases h with
  | nil q => rw [q] at e; cases e
  | cons q _ _ _ hs _ _ => rw [q] at e; cases e; exact ⟨rfl, fun x => hs env x⟩
/-- what stays of the slots behind a turn -/
def Kp (vs : List Nat) (σ σ' : L2.St) : Prop := σ.length = σ'.length ∧ ∀ (j : Nat) v, (L2.wipe σ vs)[j]? = some (some v) → σ'[j]? = some (some v)
theorem bodyOk.mono {prog : Program} {w : World} {A : Around} {s : Shared} {elt : Expr} {gs : List Comprehension} {scope : Scope} {pos : Pos} {acc : Value} {env : Env} {k : Nat} {Q Q' : Shared → Prop} {Er : Value → Shared → Prop}
    (h : bodyOk prog w A elt gs scope pos k acc env Q Er s) (i : ∀ s, Q s → Q' s) : bodyOk prog w A elt gs scope pos k acc env Q' Er s := by
  unfold bodyOk at h ⊢
  split
  · rename_i e
    rw [e] at h
    exact wpAny_mono h (fun x s1 h1 => wpAny_mono h1 (fun _ s2 h2 => i _ h2) fun _ _ z => z) fun _ _ z => z
  · rename_i g e
    rw [e] at h
    refine wpAny_mono h (fun x s1 h1 => wpAny_mono h1 (fun it s2 h2 => codeAny_mono h2 fun r s' hr => ?_) fun _ _ z => z) fun _ _ z => z
    cases r with
    | ok f => exact i _ hr
    | error e => exact hr
theorem inner_ok {X : Cx} {elt : Expr} {gs : List Comprehension} {scope : Scope} {pos : Pos} {te : TE} {D : Addr} (hc : X.calm = true) (pe : PE X elt te) : ∀ (cs : List Cl) (k : Nat) (vs : List Nat) (pins : List (Addr × Obj)) (σ : L2.St) (H : Hp) (s : Shared) (Nx : Hp → Prop) (Er : Value → Shared → Prop),
    ClsOk X gs (k + 1) vs cs → Inv X pins σ H s → tIn te D cs σ H Nx →
    (X.xe = fun _ _ => False) →
    bodyOk X.prog X.w X.A elt gs scope pos k (.ref D) X.env (fun s' => ∃ σ' H', Inv X pins σ' H' s' ∧ Kp vs σ σ' ∧ Nx H') Er s := by
  intro cs
  induction cs with
  | nil =>
    intro k vs pins σ H s Nx Er ok I h hx
    cases ok with
    | nil q =>
      unfold bodyOk
      rw [q]
      have r := pe.run pins s σ H _ I h
      rw [hx] at r
      refine thnF r fun z s1 ⟨yv, H1, I1, r1, acc, hD, hz, nx⟩ => ?_
      exact app_ok I1 hD hz r1 fun s2 I2 => ⟨_, _, I2, ⟨rfl, fun j v e => (wipe_some e).1⟩, nx⟩
  | cons c cs ih =>
    intro k vs pins σ H s Nx Er ok I h hx
    cases ok with
    | @cons _ _ _ _ tg it ifs q pi1 pg1 pt1 hs1 hv nxt =>
      unfold bodyOk
      rw [q]
      have r := pi1.run pins s σ H _ I h
      rw [hx] at r
      refine thnF r fun xv s10 hx10 => thnF (hx10) fun itv s11 h11 => ?_
      obtain ⟨it1, fp1, tn1, J1, H11, e1, I11, T1, st11, f11, W1, ⟨m1, w1⟩, turn1⟩ := h11
      subst e1
      have stat1 : ∀ {H' : Hp}, (∀ b ∈ fp1, H' b = none) → ∀ b ∈ fp1, FpOk X pins H' b := fun hn b hb => ⟨hn b hb, (f11 b hb).2⟩
      have loop1 : codeAny (model X.prog X.w) X.A (.compLoop (.ListComp elt gs scope pos) (k + 1) (.ref it1) (.ref D) X.env)
          (fun r s' => match r with
            | .ok _ => ∃ σ' H', Inv X pins σ' H' s' ∧ Kp vs σ σ' ∧ Nx H'
            | .error _ => False) s11 := by
        refine loopG q (fun g e => nxt.next _ g e) (fun n s' => ∃ j H', Inv X pins (L2.wipe σ c.vs) H' s' ∧ tn1 j s'.heap ∧ (∀ b ∈ fp1, H' b = none) ∧ W1 j n H') ?_ m1 ⟨0, H11, I11.weak (wipe_length _ _) (fun j v e => (wipe_some e).1), st11, fun b hb => (f11 b hb).1, w1⟩
        rintro n s12 ⟨j, H12, I12, st12, n12, w12⟩
        rcases turn1 j n H12 w12 with ⟨stop1, nx1⟩ | ⟨go1, Nx1, hNx1, step1⟩
        · refine thnF (T1.done X rfl rfl rfl hc j _ s12 (L2.wipe σ c.vs) H12 (fun _ _ => False) I12 (stat1 n12) st12 stop1) fun r s13 ⟨hr, I13⟩ => ?_
          subst hr
          refine ⟨_, _, I13, ⟨(wipe_length σ c.vs).symm, fun j v e => ?_⟩, nx1⟩
          obtain ⟨e1, e2⟩ := wipe_some e
          rw [L2.wipe_out fun z => e2 (hv j z)]
          exact e1
        · refine thnF (T1.item X rfl rfl rfl hc j _ s12 (L2.wipe σ c.vs) H12 (fun _ _ => False) I12 (stat1 n12) st12 go1) fun r s13 ⟨u1, hr, h13⟩ => ?_
          subst hr
          refine thnF h13 fun _ s14 ⟨x1, H14, I14, r14, y14, st14, n14⟩ => ?_
          have I14' := I14.pinned (stat1 n14) (T1.obj _ _ st14)
          have rg := pg1.run _ s14 (L2.wipe σ c.vs) H14 x1 u1 _ I14' r14 (step1 x1 H14 y14)
          rw [hx] at rg
          refine thnF rg fun _ s15 ⟨σ15, H15, I15, hw15, q15⟩ => ?_
          have rt := pt1.run _ s15 σ15 H15 _ I15 q15
          rw [hx] at rt
          refine thnF rt fun b1 s16 ⟨H16, I16, q16⟩ => ?_
          have fin1 : ∀ {s' : Shared} {H' : Hp} {σ' : L2.St}, Inv X (pins ++ pinsAt fp1 s14.heap) σ' H' s' → Kp c.vs σ15 σ' → Nx1 H' → ∃ m, m < n ∧ ∃ j H', Inv X pins (L2.wipe σ c.vs) H' s' ∧ tn1 j s'.heap ∧ (∀ b ∈ fp1, H' b = none) ∧ W1 j m H' := fun {s' H' σ'} I' kp nx => by
            obtain ⟨m', hm, w'⟩ := hNx1 H' nx
            have pin' : ∀ b ∈ fp1, ∀ o, s14.heap.get? b = some o → s'.heap.get? b = some o ∧ H' b = none := fun b hb o e =>
              let z := I'.pin (b, o) (List.mem_append_right _ (List.mem_append_right _ (mem_pinsAt hb e)))
              ⟨z.1, z.2.1⟩
            refine ⟨m', hm, j + 1, H', I'.unpinned.weak (by rw [← kp.1, ← hw15, wipe_length]) (fun j v e => kp.2 j v (by rw [hw15]; exact e)), T1.keep _ _ _ st14 fun b hb o e => (pin' b hb o e).1, fun b hb => ?_, w'⟩
            obtain ⟨o, e, _⟩ := T1.obj _ _ st14 b hb
            exact (pin' b hb o e).2
          cases b1 with
          | false =>
            simp only [Bool.false_eq_true, if_false] at q16 ⊢
            exact fin1 I16 ⟨rfl, fun j v e => (wipe_some e).1⟩ q16
          | true =>
            simp only [if_true] at q16 ⊢
            exact bodyOk.mono (ih (k + 1) c.vs (pins ++ pinsAt fp1 s14.heap) σ15 H16 s16 Nx1 _ nxt I16 q16 hx) fun s' ⟨σ', H', I', kp, nx⟩ => fin1 I' kp nx
      exact startG q loop1 (T1.self X.A 0 _ _ _ st11 loop1)
end Gu
end

section
set_option Elab.async false
set_option linter.all false
set_option maxRecDepth 100000
set_option maxHeartbeats 2000000
/-! Ge: list comprehensions with any number of fors: as a value. -/
namespace Gu
open PySem PySem.Spec PyProof.Rows L2
def tLcN (c : Cl) (cs : List Cl) (te : TE) : TE := fun σ H Q => c.wi σ H fun J H1 => ∀ D, H1 D = none → ∃ W : Nat → Nat → Hp → Prop, (∃ m, W 0 m (upd H1 D (.lst []))) ∧ ∀ i m H, W i m H →
  (J.stop i H ∧ Q (.ref D) H) ∨ (J.go i H ∧ ∃ Nx : Hp → Prop, (∀ H', Nx H' → ∃ m', m' < m ∧ W (i + 1) m' H') ∧ ∀ x H', J.yld i H x H' → c.g x (L2.wipe σ c.vs) H' fun σ2 H2 => L2.wipe σ2 c.vs = L2.wipe σ c.vs ∧ c.tt σ2 H2 fun b H3 =>
    if b = true then tIn te D cs σ2 H3 Nx else Nx H3)
theorem lcN_core {X : Cx} {pins : List (Addr × Obj)} {s : Shared} {σ : L2.St} {H : Hp} {Q : VK} {elt tg iter : Expr} {ifs : List Expr} {rest : List Comprehension} {scope : Scope} {own : List (Str × Nat)} {pos pos' : Pos} {wi : TI} {g : TG} {tt : TT} {cs : List Cl} {te : TE} {use : Option (Value → Sem Unit)} {Qf : Value → Shared → Prop}
    (hc : X.calm = true) (hN : X.N.Nodup) (I : Inv X pins σ H s) (hi : PI X tg iter wi) (ok : BlkOk X.N X.env.scope scope own)
    (hg : ∀ (s : Shared) (H : Hp) (C : Addr) (cl : List (Str × Addr)) (fp : List Addr), PG (X.blk s H scope (compEnvC scope cl C X.env) fp) tg g) (ht : ∀ (s : Shared) (H : Hp) (C : Addr) (cl : List (Str × Addr)) (fp : List Addr), PTs (X.blk s H scope (compEnvC scope cl C X.env) fp) ifs tt)
    (hcs : ∀ (s : Shared) (H : Hp) (C : Addr) (cl : List (Str × Addr)) (fp : List Addr), ClsOk (X.blk s H scope (compEnvC scope cl C X.env) fp) (⟨tg, iter, ifs, 0⟩ :: rest) 1 (own.map (·.2)) cs)
    (he : ∀ (s : Shared) (H : Hp) (C : Addr) (cl : List (Str × Addr)) (fp : List Addr), PE (X.blk s H scope (compEnvC scope cl C X.env) fp) elt te) (hs : ∀ x, foldedSetIterable iter X.env x = pure x)
    (h : tLcN ⟨wi, g, tt, own.map (·.2)⟩ cs te σ H Q)
    (hRR : ∀ D C s' m H', Inv X pins σ H' s' → Q (.ref D) H' → s'.heap.Ns C m → FpOk X pins H' C → compPost (model X.prog X.w) X.A X.xe use Qf (.ref D) C (.ok .next) s') :
    wpAny (model X.prog X.w) X.A (comprehension (.ListComp elt (⟨tg, iter, ifs, 0⟩ :: rest) scope pos) scope X.env pos' (newList []) false (eval iter X.env) use) Qf X.xe s := by
  have hfree : ∀ y ∈ scope.names, y.2 = .free → ∃ c, X.env.cells.lookup y.1 = some c := fun y hy e => by
    rcases ok.free y hy e with k | k
    · exact I.ok.has _ (.inl k)
    · exact I.ok.has _ (.inr k)
  refine wpAny_comprehension_free (use := use) rfl hs (closure_ok hfree) ok.kind (fun y hy e => by rw [ok.uniq y hy, e])
    (thn (hi.run pins s σ H _ I h) fun xv s1 hx => thn hx fun itv s2 h2 => ?_)
  obtain ⟨it, fp, tn, J, H2, e, I2, T, st2, f2, q⟩ := h2
  subst e
  refine wpAny_newObj_type (newEnv_comp ?_) (by show 0 ≤ sizeLine; decide)
  generalize hD : s2.heap.objs.size = D
  have hDn : H2 D = none := I2.hok.fresh (Nat.le_of_eq hD)
  obtain ⟨W, ⟨m0, w0⟩, turn⟩ := q D hDn
  generalize hs3 : ({ s2 with heap := s2.heap.push { cls := .type "list", data := .seq ([] : List Value).toArray } } : Shared) = s3
  have I3 : Inv X pins σ (upd H2 D (.lst [])) s3 := by
    rw [← hs3]
    refine I2.laid (t' := s2.toks) (fun b o e => Heap.get?_push_of_some _ e) (Nat.le_of_eq hD) ⟨Nat.zero_le _, [], 0, .nil, ?_⟩
    rw [← hD]
    exact Heap.get?_push_size _ rfl
  have h3 : s3.heap = s2.heap.push { cls := .type "list", data := .seq ([] : List Value).toArray } := by rw [← hs3]
  have sz : ∀ b ∈ fp, b < s2.heap.objs.size := fun b hb => by
    obtain ⟨o, e, _⟩ := T.obj _ _ st2 b hb
    exact Heap.lt_size e
  have f3 : ∀ b ∈ fp, FpOk X pins (upd H2 D (.lst [])) b ∧ b < s3.heap.objs.size := fun b hb => by
    have hlt := sz b hb
    refine ⟨⟨?_, (f2 b hb).2⟩, by rw [h3, Heap.size_push]; exact Nat.lt_succ_of_lt hlt⟩
    rw [upd_ne (by rw [← hD]; exact Nat.ne_of_lt hlt)]
    exact (f2 b hb).1
  have st3 : tn 0 s3.heap := T.keep _ _ _ st2 fun b _ o e => by rw [h3]; exact Heap.get?_push_of_some _ e
  have I4 := block_start I3 ok hN f3
  have pg := hg s3 (upd H2 D (.lst [])) s3.heap.objs.size (cellsFrom (s3.heap.objs.size + 1) scope.names (cloFrom X.env.cells scope.names [])) fp
  have pt := ht s3 (upd H2 D (.lst [])) s3.heap.objs.size (cellsFrom (s3.heap.objs.size + 1) scope.names (cloFrom X.env.cells scope.names [])) fp
  have pe := he s3 (upd H2 D (.lst [])) s3.heap.objs.size (cellsFrom (s3.heap.objs.size + 1) scope.names (cloFrom X.env.cells scope.names [])) fp
  have pcs := hcs s3 (upd H2 D (.lst [])) s3.heap.objs.size (cellsFrom (s3.heap.objs.size + 1) scope.names (cloFrom X.env.cells scope.names [])) fp
  show codeAny _ _ (.compStart (.ListComp elt (⟨tg, iter, ifs, 0⟩ :: rest) scope pos) 0 (.ref it) (.ref D) (compEnvC scope (cellsFrom (s3.heap.objs.size + 1) scope.names (cloFrom X.env.cells scope.names [])) s3.heap.objs.size X.env)) (compPost (model X.prog X.w) X.A X.xe use Qf (.ref D) s3.heap.objs.size) { s3 with heap := pushCells (s3.heap.push { cls := .type "dict", data := .dict #[] }) scope.names }
  have nfp : ∀ b ∈ fp, (upd H2 D (.lst [])) b = none := fun b hb => (f3 b hb).1.1
  generalize hce : compEnvC scope (cellsFrom (s3.heap.objs.size + 1) scope.names (cloFrom X.env.cells scope.names [])) s3.heap.objs.size X.env = ce at I4 pg pt pe pcs ⊢
  have cL : ce.locals = s3.heap.objs.size := by subst hce; rfl
  generalize hH3 : upd H2 D (.lst []) = H3 at I3 I4 pg pt pe pcs w0 nfp f3
  generalize hs4 : ({ s3 with heap := pushCells (s3.heap.push { cls := .type "dict", data := .dict #[] }) scope.names } : Shared) = s4 at I4 ⊢
  have st4 : tn 0 s4.heap := T.keep _ _ _ st3 fun b _ o e => by rw [← hs4]; exact pushCells_keeps _ _ _ _ (Heap.get?_push_of_some _ e)
  have stat : ∀ {σ' : L2.St} {H' : Hp} {s' : Shared}, Inv (X.blk s3 H3 scope ce fp) [] σ' H' s' → (∀ b ∈ fp, H' b = none) → ∀ b ∈ fp, FpOk (X.blk s3 H3 scope ce fp) [] H' b := fun {σ' H' s'} I' hn b hb =>
    ⟨hn b hb, (I'.ok.exf b hb).1, I'.ok.exfs b hb, .inl hb, fun x c e => (I'.ok.exf b hb).2 x c e, fun p hp => absurd (show p ∈ ([] : List (Addr × Obj)) ++ [] from hp) (by simp)⟩
  have loop : codeAny (model X.prog X.w) X.A (.compLoop (.ListComp elt (⟨tg, iter, ifs, 0⟩ :: rest) scope pos) 0 (.ref it) (.ref D) ce) (compPost (model X.prog X.w) X.A X.xe use Qf (.ref D) s3.heap.objs.size) s4 := by
    refine loopG (k := 0) rfl (fun g e => pcs.next ce g e) (fun n s' => ∃ i H', Inv (X.blk s3 H3 scope ce fp) [] (L2.wipe σ (own.map (·.2))) H' s' ∧ tn i s'.heap ∧ (∀ b ∈ fp, H' b = none) ∧ W i n H') ?_ m0 ⟨0, H3, I4, st4, nfp, w0⟩
    rintro n s5 ⟨i, H5, I5, st5, n5, w5⟩
    rcases turn i n H5 w5 with ⟨stop, qq⟩ | ⟨go, Nx, hNx, step⟩
    · have td := T.done (X.blk s3 H3 scope ce fp) rfl rfl rfl hc i [] s5 _ H5 (fun _ _ => False) I5 (stat I5 n5) st5 stop
      refine thnF td fun r s6 ⟨hr, I6⟩ => ?_
      subst hr
      have I7 : Inv X pins σ H5 s6 := I3.call' (ch := fp) I6.os I6.base I6.hok I6.bare fun b hb => ⟨(f3 b hb).1.2.2.2.1, (f3 b hb).1.2.1, (f3 b hb).1.2.2.2.2.1, (f3 b hb).1.2.2.2.2.2⟩
      have nC : H5 s3.heap.objs.size = none := by
        have z : H5 ce.locals = none := I6.free
        rw [cL] at z
        exact z
      obtain ⟨m, hn, _⟩ := I6.loc
      have hn : s6.heap.Ns ce.locals m := hn
      rw [cL] at hn
      exact hRR D s3.heap.objs.size s6 m H5 I7 qq hn (I3.fpOk (Nat.le_refl _) nC)
    · have ti := T.item (X.blk s3 H3 scope ce fp) rfl rfl rfl hc i [] s5 _ H5 (fun _ _ => False) I5 (stat I5 n5) st5 go
      refine thnF ti fun r s6 ⟨u, hr, h6⟩ => ?_
      subst hr
      refine thnF h6 fun _ s7 ⟨x, H7, I7, r7, y7, st7, n7⟩ => ?_
      have I7' := I7.pinned (stat I7 n7) (T.obj _ _ st7)
      refine thnF (pg.run _ s7 _ H7 x u _ I7' r7 (step x H7 y7)) fun _ s8 ⟨σ8, H8, I8, hw8, q8⟩ => ?_
      refine thnF (pt.run _ s8 σ8 H8 _ I8 q8) fun b s9 ⟨H9, I9, q9⟩ => ?_
      have fin : ∀ {σ9 : L2.St} {s' : Shared} {H' : Hp}, Inv (X.blk s3 H3 scope ce fp) ([] ++ pinsAt fp s7.heap) σ9 H' s' → Kp (own.map (·.2)) σ8 σ9 → Nx H' →
          ∃ m, m < n ∧ ∃ i H', Inv (X.blk s3 H3 scope ce fp) [] (L2.wipe σ (own.map (·.2))) H' s' ∧ tn i s'.heap ∧ (∀ b ∈ fp, H' b = none) ∧ W i m H' := fun {σ9 s' H'} I' kp nx => by
        obtain ⟨m', hm, w'⟩ := hNx H' nx
        have pin' : ∀ b ∈ fp, ∀ o, s7.heap.get? b = some o → s'.heap.get? b = some o ∧ H' b = none := fun b hb o e =>
          let z := I'.pin (b, o) (List.mem_append_right _ (List.mem_append_right _ (mem_pinsAt hb e)))
          ⟨z.1, z.2.1⟩
        have hl : (L2.wipe σ (own.map (·.2))).length = σ9.length := by rw [← kp.1, ← hw8, wipe_length]
        refine ⟨m', hm, i + 1, H', (I'.unpinned (pins := [])).weak hl (fun j v e => kp.2 j v (by rw [hw8]; exact e)), T.keep _ _ _ st7 fun b hb o e => (pin' b hb o e).1, fun b hb => ?_, w'⟩
        obtain ⟨o, e, _⟩ := T.obj _ _ st7 b hb
        exact (pin' b hb o e).2
      cases b with
      | false =>
        simp only [Bool.false_eq_true, if_false] at q9 ⊢
        exact fin I9 ⟨rfl, fun j v e => (wipe_some e).1⟩ q9
      | true =>
        simp only [if_true] at q9 ⊢
        exact bodyOk.mono (inner_ok (X := X.blk s3 H3 scope ce fp) hc pe cs 0 _ _ σ8 H9 s9 Nx _ pcs I9 q9 rfl) fun s' ⟨σ', H', I', kp, nx⟩ => fin I' kp nx
  exact codeAny_compStart_list loop (T.self X.A 0 _ _ _ st4 loop)
theorem pe_lcN {X : Cx} {elt tg iter : Expr} {ifs : List Expr} {rest : List Comprehension} {scope : Scope} {own : List (Str × Nat)} {pos : Pos} {wi : TI} {g : TG} {tt : TT} {cs : List Cl} {te : TE} (hc : X.calm = true) (hN : X.N.Nodup) (hi : PI X tg iter wi) (ok : BlkOk X.N X.env.scope scope own)
    (hg : ∀ (s : Shared) (H : Hp) (C : Addr) (cl : List (Str × Addr)) (fp : List Addr), PG (X.blk s H scope (compEnvC scope cl C X.env) fp) tg g) (ht : ∀ (s : Shared) (H : Hp) (C : Addr) (cl : List (Str × Addr)) (fp : List Addr), PTs (X.blk s H scope (compEnvC scope cl C X.env) fp) ifs tt)
    (hcs : ∀ (s : Shared) (H : Hp) (C : Addr) (cl : List (Str × Addr)) (fp : List Addr), ClsOk (X.blk s H scope (compEnvC scope cl C X.env) fp) (⟨tg, iter, ifs, 0⟩ :: rest) 1 (own.map (·.2)) cs)
    (he : ∀ (s : Shared) (H : Hp) (C : Addr) (cl : List (Str × Addr)) (fp : List Addr), PE (X.blk s H scope (compEnvC scope cl C X.env) fp) elt te) (hs : ∀ x, foldedSetIterable iter X.env x = pure x := by intro _; rfl) :
    PE X (.ListComp elt (⟨tg, iter, ifs, 0⟩ :: rest) scope pos) (tLcN ⟨wi, g, tt, own.map (·.2)⟩ cs te) := by
  refine ⟨fun pins s σ H Q I h => ?_⟩
  rw [eval_ListComp]
  refine lcN_core hc hN I hi ok hg ht hcs he hs h fun D C s' m H' I' q hn f => ⟨m, hn, fun h'' sb => ?_⟩
  obtain ⟨f0, f1, f2, f3, f4, f5⟩ := f
  exact ⟨.ref D, H', I'.turned (t' := s'.toks) (fun b o hb e => (sb.2 b hb).trans e) f0 f1 f3 f4 f5, rfl, q⟩
theorem ps_setLcN {X : Cx} {i : Nat} {y : Str} {py : Pos} {elt tg iter : Expr} {ifs : List Expr} {rest : List Comprehension} {scope : Scope} {own : List (Str × Nat)} {pos spos : Pos} {wi : TI} {g : TG} {tt : TT} {cs : List Cl} {te : TE} (hc : X.calm = true) (hN : X.N.Nodup) (hy : X.N[i]? = some y) (hyl : X.env.scope.names.lookup y = some .local)
    (hsw : swapsWith (.ListComp elt (⟨tg, iter, ifs, 0⟩ :: rest) scope pos) (some (.Name y py)) spos.line X.env = pure true) (hi : PI X tg iter wi) (ok : BlkOk X.N X.env.scope scope own)
    (hg : ∀ (s : Shared) (H : Hp) (C : Addr) (cl : List (Str × Addr)) (fp : List Addr), PG (X.blk s H scope (compEnvC scope cl C X.env) fp) tg g) (ht : ∀ (s : Shared) (H : Hp) (C : Addr) (cl : List (Str × Addr)) (fp : List Addr), PTs (X.blk s H scope (compEnvC scope cl C X.env) fp) ifs tt)
    (hcs : ∀ (s : Shared) (H : Hp) (C : Addr) (cl : List (Str × Addr)) (fp : List Addr), ClsOk (X.blk s H scope (compEnvC scope cl C X.env) fp) (⟨tg, iter, ifs, 0⟩ :: rest) 1 (own.map (·.2)) cs)
    (he : ∀ (s : Shared) (H : Hp) (C : Addr) (cl : List (Str × Addr)) (fp : List Addr), PE (X.blk s H scope (compEnvC scope cl C X.env) fp) elt te) (hs : ∀ x, foldedSetIterable iter X.env x = pure x := by intro _; rfl) :
    PS X (.Assign [.Name y py] (.ListComp elt (⟨tg, iter, ifs, 0⟩ :: rest) scope pos) spos) (tAsg (tLcN ⟨wi, g, tt, own.map (·.2)⟩ cs te) (gName i)) := by
  refine ⟨fun pins s σ H D I h => ?_⟩
  rw [exec_Assign_Name_used _ _ _ _ hsw]
  refine wpAny_bind (wpAny_standAt (wpAny_bind ?_))
  show wpAny _ X.A (do let _ ← comprehension (.ListComp elt (⟨tg, iter, ifs, 0⟩ :: rest) scope pos) scope X.env (firstIterPos (⟨tg, iter, ifs, 0⟩ :: rest) pos) (newList []) false (eval iter X.env) (some (assign (.Name y py) X.env))) _ _ s
  have h : tLcN ⟨wi, g, tt, own.map (·.2)⟩ cs te σ H (fun x H1 => gName i x σ H1 D.nx) := h
  refine wpAny_bind (thn (lcN_core (Qf := fun _ s' => SP X pins D .next s') hc hN I hi ok hg ht hcs he hs h fun L C s' m H' I' q hn f => ?_) fun _ s' hq => wpAny_pure (wpAny_pure hq))
  show wpAny _ _ (assign (.Name y py) X.env (.ref L)) _ _ _
  refine wpAny_assign_Name (store_ok2 (v := V.ref L) I' hN hy (.inl hyl) rfl (fun s2 I2 ⟨a, sb, ha⟩ => ?_) (.inr hyl))
  obtain ⟨f0, f1, f2, f3, f4, f5⟩ := f
  have haC : C ≠ a := by
    rcases ha with z | z
    · rw [z]; exact f1
    · exact fun e => f4 y a z e.symm
  refine ⟨m, hn.sameBut sb haC, fun h3 sb3 => ?_⟩
  exact ⟨_, H', I2.turned (t' := s2.toks) (fun b o hb e => (sb3.2 b hb).trans e) f0 f1 f3 f4 f5, q⟩
end Gu
end

section
set_option Elab.async false
set_option linter.all false
set_option maxRecDepth 100000
/-! Gu8: expressions are sound. -/
namespace Gu
open PySem PySem.Spec PyProof.Rows L2

section
variable {X : Cx} {tg : Expr}
def iAny (K : PySem.W.Frag) (te : TE) : TI := fun σ H R => te σ H fun x H1 =>
  (∃ a, x = .ref a ∧ (∃ xs, SqL K H1 a xs) ∧ R (Itl K a) H1) ∨ (∃ a, x = .ref a ∧ (∃ xs, SqT K H1 a xs) ∧ R (Itt K a) H1) ∨ (∃ s, x = .str s ∧ R (Its s) H1)
theorem pi_any {l : Expr} {tl : TE} (hl : PE X l tl) : PI X tg l (iAny X.K tl) := by
  refine ⟨fun pins s σ H R I h => ?_⟩
  refine thn (hl.run pins s σ H _ I h) fun v s1 ⟨x, H1, I1, r1, q1⟩ => ?_
  rcases q1 with ⟨a, e, ⟨xs, hq⟩, q⟩ | ⟨a, e, ⟨xs, hq⟩, q⟩ | ⟨x', ex, q⟩
  · subst e
    cases r1
    obtain ⟨its, rv, p, hz⟩ := I1.list hq
    refine wpAny_pyIter_list p.isList ?_
    refine ⟨s1.heap.objs.size, [s1.heap.objs.size], _, _, H1, rfl, I1.kept (t' := s1.toks) fun b o e => Heap.get?_push_of_some _ e, turn_list a _, ⟨_, Heap.get?_push_size _ rfl, rfl, rfl⟩, fun b hb => ?_, q⟩
    have e : b = s1.heap.objs.size := by simpa using hb
    subst e
    exact I1.fpOk (Nat.le_refl _) (I1.hok.fresh (Nat.le_refl _))
  · subst e
    cases r1
    obtain ⟨its, rv, p, hz⟩ := I1.tuple hq
    refine wpAny_pyIter_tuple (show s1.heap.IsTuple a its.toArray from p) ?_
    refine ⟨s1.heap.objs.size, [s1.heap.objs.size], _, _, H1, rfl, I1.kept (t' := s1.toks) fun b o e => Heap.get?_push_of_some _ e, turn_tuple a _, ⟨_, Heap.get?_push_size _ rfl, rfl, rfl⟩, fun b hb => ?_, q⟩
    have e : b = s1.heap.objs.size := by simpa using hb
    subst e
    exact I1.fpOk (Nat.le_refl _) (I1.hok.fresh (Nat.le_refl _))
  · subst ex
    obtain ⟨t, rfl⟩ := r1
    cases ha : x'.cps.all (· < 128)
    · exact wpAny_pyIter_wide ha (pi_one (tk := s1.toks) I1 _ (turn_str _ x' t "str_iterator" (.inr rfl)) ⟨_, Heap.get?_push_size _ rfl, rfl, rfl⟩ q)
    · exact wpAny_pyIter_ascii ha (pi_one (tk := s1.toks) I1 _ (turn_str _ x' t "str_ascii_iterator" (.inl rfl)) ⟨_, Heap.get?_push_size _ rfl, rfl, rfl⟩ q)
end

/-- an expression of the small language is sound at its text -/
structure SndE (X : Cx) (W : L2.St → XW) (call : CallT) (e : E) (x : Expr) : Prop where
  pe : PE X x (tV X.K W call e)
  pt : PT X x (tT X.K W call e)
  pi : ∀ tg, itTg e tg = true → PI X tg x (tI X.K W call e)
  pw : ∀ op vs p, x = .BoolOp op vs p → PW X x (tT X.K W call e)
theorem SndE.po {X : Cx} {W : L2.St → XW} {call : CallT} {e : E} {x : Expr} (h : SndE X W call e x) (ho : (ev call e).o = fun ρ h => ((ev call e).v ρ h).bind fun x h1 => match x with | .int k => .ok (some k) h1 | _ => .no) : PO X (some x) (tO X.K W call e) :=
  PO.imp (po_some h.pe) fun σ H Q q => by
    obtain ⟨ρ, hh, L, rs, hr, q⟩ := q
    rw [ho] at q
    refine ⟨ρ, hh, L, rs, hr, ?_⟩
    refine (outV.bind q).imp fun v h1 H1 L1 r1 x1 q1 => ?_
    intro z hz
    split at q1
    · obtain rfl := hz.int_of
      exact ⟨_, rfl, outV.here q1 r1⟩
    · exact q1.elim
structure SndL (X : Cx) (W : L2.St → XW) (call : CallT) (e : E) (xs : List Expr) : Prop where
  pa : PA X xs (tA X.K W call e)
  pts : xs.length ≤ 1 → PTs X xs (tT X.K W call e)
def tC (K : PySem.W.Frag) (call : CallT) (e : E) (n : Nat) (D : Addr) : L2.St → Hp → (Hp → Prop) → Prop := fun σ H Nx => ∃ ρ h L, Slots K H L ρ σ ∧ HR K H L h ∧ L[n]? = some D ∧ outV K (noW σ) H L ((ev call e).c n ρ h) (fun _ _ H' _ => Nx H')
/-- the fors behind the first, and the item -/
def gNms : List Nat → TGs
  | [] => gNil
  | i :: is => gCons (gName i) (gNms is)
def gNT (K : PySem.W.Frag) : NT → TG
  | .nm i => gName i
  | .tp is => gTup K is.length (gNms is)
def clsOf (K : PySem.W.Frag) (call : CallT) : E → List Cl
  | .cl own t it cond rest => ⟨tI K noW call it, gNT K t, tT K noW call cond, own⟩ :: clsOf K call rest
  | _ => []
def teOf (K : PySem.W.Frag) (call : CallT) : E → TE
  | .cl _ _ _ _ rest => teOf K call rest
  | .el e => tV K noW call e
  | _ => fun _ _ _ => False
def SndC (X : Cx) (call : CallT) (e : E) (x : Expr) (r : List Comprehension) : Prop := PE X x (teOf X.K call e) ∧ (∀ gs k vs, gs.drop k = r → (∀ i ∈ ownOf e, i ∈ vs) → ClsOk X gs k vs (clsOf X.K call e)) ∧ ∀ n D σ H Nx, tC X.K call e n D σ H Nx → tIn (teOf X.K call e) D (clsOf X.K call e) σ H Nx
def Snd (X : Cx) (W : L2.St → XW) (call : CallT) (e : E) : Nd → Prop
  | .e x => SndE X W call e x
  | .es xs => SndL X W call e xs
  | .o x => PO X x (tO X.K W call e)
  | .gs x r => SndC X call e x r

section
variable {X : Cx} {W : L2.St → XW} {call : CallT} {e a b : E} {x y : Expr}
theorem tI_any2 {K : PySem.W.Frag} {W : L2.St → XW} {call : CallT} {e : E} (f : Rho → MH → R Val) (hv : (ev call e).v = f) (hi : (ev call e).i = fun ρ h => (f ρ h).bind fun x h1 => R.ofO (itemsV h1 x) h1) {σ H R} (q : tI K W call e σ H R) : iAny K (tV K W call e) σ H R := by
  obtain ⟨ρ, h, L, rs, hr, q⟩ := q
  rw [hi] at q
  refine ⟨ρ, h, L, rs, hr, ?_⟩
  rw [hv]
  refine (outV.bind q).imp fun v h1 H1 L1 r1 x1 q1 => ?_
  obtain ⟨its, e1, q2⟩ := q1.ofO r1
  intro z hz
  cases v with
  | tup vs =>
    obtain ⟨p, xs, rfl, hp, hv⟩ := hz.tup_of
    cases e1
    exact .inr (.inl ⟨p, rfl, ⟨xs, hp⟩, q2 _ (.inl ⟨p, xs, rfl, hp, hv⟩)⟩)
  | fro vs =>
    obtain ⟨p, xs, rfl, hp, hv⟩ := hz.fro_of
    cases e1
    exact .inl ⟨p, rfl, ⟨xs, hp.sq⟩, q2 _ (.inr (.inl ⟨p, xs, rfl, hp, hv⟩))⟩
  | loc n =>
    have e1' : (seqL h1 n).map (fun xs => Items.live n xs.length) = some its := e1
    cases eq : seqL h1 n with
    | none => rw [eq] at e1'; cases e1'
    | some vs =>
      rw [eq] at e1'
      cases e1'
      obtain ⟨p, xs, rfl, ep, hp, hv⟩ := the_seq r1 hz eq
      exact .inl ⟨p, rfl, ⟨xs, hp⟩, q2 _ ⟨p, rfl, ep⟩⟩
  | str s =>
    obtain ⟨rfl, k⟩ := hz.str_of
    cases e1
    exact .inr (.inr ⟨_, rfl, q2 _ (.inr (.inr ⟨s, rfl, k, rfl⟩))⟩)
  | non => cases e1
  | bl _ => cases e1
  | int _ => cases e1
  | dct _ => cases e1
theorem tI_any {K : PySem.W.Frag} {W : L2.St → XW} {call : CallT} {e : E} (f : Rho → MH → R Val) (he : ev call e = Den.ofV f) {σ H R} (q : tI K W call e σ H R) : iAny K (tV K W call e) σ H R :=
  tI_any2 f (by rw [he]; rfl) (by rw [he]; rfl) q
/-- from its value alone -/
theorem SndE.of (f : Rho → MH → R Val) (he : ev call e = Den.ofV f) (hp : plainT x = true) (pe : PE X x (tV X.K W call e)) : SndE X W call e x where
  pe := pe
  pt := by
    refine PT.imp (pt_truth pe (test_of hp)) fun σ H Q q => ?_
    obtain ⟨ρ, h, L, rs, hr, q⟩ := q
    rw [he] at q
    refine ⟨ρ, h, L, rs, hr, ?_⟩
    rw [he]
    refine (outV.bind q).imp fun v h1 H1 L1 r1 x1 q1 => ?_
    obtain ⟨k, e1, q2⟩ := q1.ofO r1
    intro z hz
    exact ⟨k, tru_of r1 hz e1, q2⟩
  pi := fun tg _ => PI.imp (pi_any pe) fun σ H R q => tI_any f he q
  pw := fun op vs p e' => by subst e'; cases hp
theorem SndE.pi' (f : Rho → MH → R Val) (he : ev call e = Den.ofV f) (pe : PE X x (tV X.K W call e)) (tg : Expr) : PI X tg x (tI X.K W call e) := PI.imp (pi_any pe) fun σ H R q => tI_any f he q
def r2E (K : PySem.W.Frag) (f : Val → Val → MH → R Val) : R2 := fun x y H Q => ∃ W, r2 K W f x y H Q
theorem opr_any {g : Value → Value → Sem Value} {f : Val → Val → MH → R Val} (h : ∀ W, OpR X g (r2 X.K W f)) : OpR X g (r2E X.K f) := fun pins s σ H x y v u Q I rx ry ⟨W, q⟩ => h W pins s σ H x y v u Q I rx ry q
theorem ixr_any {f : Val → Val → MH → R Val} (h : ∀ W, IxR X (r2 X.K W f)) : IxR X (r2E X.K f) := fun va sl pins s σ H x y v u Q I rx ry ⟨W, q⟩ hs => h W va sl pins s σ H x y v u Q I rx ry q hs
/-- two values, then f -/
theorem t_two {K : PySem.W.Frag} {f : Val → Val → MH → R Val} {g : E} (hg : ∀ ρ h, (ev call g).v ρ h = ((ev call a).v ρ h).bind fun p h1 => ((ev call b).v ρ h1).bind fun q h2 => f p q h2) {σ H Q} (q : tV K W call g σ H Q) :
    tOp (r2E K f) (tV K W call a) (tV K W call b) σ H Q := by
  obtain ⟨ρ, h, L, rs, hrr, q⟩ := q
  rw [hg] at q
  refine ⟨ρ, h, L, rs, hrr, ?_⟩
  refine (outV.bind q).imp fun v h1 H1 L1 r1 x1 q1 => ?_
  intro u hu
  refine ⟨ρ, h1, L1, rs.mono x1, r1, ?_⟩
  refine (outV.bind q1).imp fun v2 h2 H2 L2 r2' x2 q2 => ?_
  intro u2 hu2
  exact ⟨W σ, v, v2, h2, L2, r2', RV.mono x2 _ _ hu, hu2, q2⟩
/-- arguments, then f -/
def rNE (K : PySem.W.Frag) (f : List Val → MH → R Val) : List V → Hp → VK → Prop := fun xs H Q => ∃ W, rN K W f xs H Q
theorem callr_any {u : Value} {f : List Val → MH → R Val} (h : ∀ W, CallR X u (rN X.K W f)) : CallR X u (rNE X.K f) := fun pins s σ H xs us Q I rs ⟨W, q⟩ => h W pins s σ H xs us Q I rs q
theorem t_args {K : PySem.W.Frag} {f : List Val → MH → R Val} {g es : E} (hg : ∀ ρ h, (ev call g).v ρ h = ((ev call es).a ρ h).bind fun p h1 => f p h1) {σ H Q} (q : tV K W call g σ H Q) :
    tCB (rNE K f) (tA K W call es) σ H Q := by
  obtain ⟨ρ, h, L, rs, hrr, q⟩ := q
  rw [hg] at q
  refine ⟨ρ, h, L, rs, hrr, ?_⟩
  refine (outV.bind q).imp fun v h1 H1 L1 r1 x1 q1 => ?_
  intro us hu
  exact ⟨W σ, v, h1, L1, r1, hu, q1⟩
def rME (K : PySem.W.Frag) (f : Val → List Val → MH → R Val) : V → List V → Hp → VK → Prop := fun x xs H Q => ∃ W, rM K W f x xs H Q
theorem mtr_any {id : String} {f : Val → List Val → MH → R Val} (h : ∀ W, MtR X id (rM X.K W f)) : MtR X id (rME X.K f) := fun pins s σ H x xs v us Q I rx rs ⟨W, q⟩ => h W pins s σ H x xs v us Q I rx rs q
def rSlE (K : PySem.W.Frag) : V → Option Int → Option Int → Hp → VK → Prop := fun x lo hi H Q => ∃ W, rSl K W x lo hi H Q
theorem slr_any : SlR X (rSlE X.K) := fun pins s σ H x v vl vu lo hi sl Q I rx hs pl pu ⟨W, q⟩ => slr_slc pins s σ H x v vl vu lo hi sl Q I rx hs pl pu q
theorem tA_nil {es : E} (he : ev call es = { Den.none with a := fun _ h => .ok [] h, o := fun _ h => .ok Option.none h, t := fun _ h => .ok true h }) {σ H Q} (q : tA X.K W call es σ H Q) : tNil σ H Q := by
  obtain ⟨ρ, h, L, rs, hr, q⟩ := q
  rw [he] at q
  exact outV.here q hr _ RVs.nil
theorem tA_cons {es : E} (he : (ev call e).a = fun ρ h => ((ev call a).v ρ h).bind fun x h1 => ((ev call es).a ρ h1).bind fun xs h2 => .ok (x :: xs) h2) {σ H Q} (q : tA X.K W call e σ H Q) : tCons (tV X.K W call a) (tA X.K W call es) σ H Q := by
  obtain ⟨ρ, h, L, rs, hr, q⟩ := q
  rw [he] at q
  refine ⟨ρ, h, L, rs, hr, ?_⟩
  refine (outV.bind q).imp fun v h1 H1 L1 r1 x1 q1 => ?_
  intro u hu
  refine ⟨ρ, h1, L1, rs.mono x1, r1, ?_⟩
  refine (outV.bind q1).imp fun vs h2 H2 L2 r2' x2 q2 => ?_
  intro us hus
  exact q2.here r2' _ (RVs.cons (RV.mono x2 _ _ hu) hus)
end
end Gu
end

section
set_option Elab.async false
set_option linter.all false
set_option maxRecDepth 100000
set_option maxHeartbeats 2000000
/-! Gr: x[::-1] of a list or a tuple. -/
namespace GuR
open PySem PySem.Spec PyProof.Rows HT
section
variable {prog : Program} {w : World} {A : Around} {E : Value → Shared → Prop} {s : Shared}
theorem adjust_rev (n : Nat) : Builtin.Slice.sliceAdjust none none (-1) (n : Int) = ((n : Int) - 1, -1) := by
  unfold Builtin.Slice.sliceAdjust
  simp
theorem places_rev (n : Nat) : Builtin.Slice.slicePlaces ((n : Int) - 1) (-1) (-1) = n := by
  unfold Builtin.Slice.slicePlaces
  have h1 : ¬ ((-1 : Int) > 0) := by omega
  simp only [h1, if_false]
  rw [show (-(-1) : Int) = 1 by decide, Int.ediv_one]
  split <;> omega
theorem sliceApplied_rev {sl : Addr} {vs : Value} {n : Nat} {Q : Int × Int × Nat → Shared → Prop} (hs : s.heap.IsSliceOf sl .none .none vs) (ps : IsPart vs (some (-1)))
    (h : Q ((n : Int) - 1, -1, n) s) : wpAny (model prog w) A (Builtin.Slice.sliceApplied (.ref sl) (pure (n : Int))) Q E s := by
  obtain ⟨os, hos, hcs, hds⟩ := id hs
  unfold Builtin.Slice.sliceApplied Builtin.Slice.sliceFields
  refine wpAny_bind (wpAny_bind (wpAny_field hos hds (x := .none) rfl (wpAny_bind (wpAny_field hos hds (x := .none) rfl (wpAny_bind (wpAny_field hos hds (x := vs) rfl (wpAny_pure ?_)))))))
  refine wpAny_bind (slicePart_ ps ?_)
  show wpAny _ _ (if ((-1 : Int) == 0) = true then _ else _) _ _ s
  rw [if_neg (by decide)]
  refine wpAny_bind (slicePart_ .none (wpAny_bind (slicePart_ .none (wpAny_bind (wpAny_pure ?_)))))
  show wpAny _ _ (match Builtin.Slice.sliceAdjust none none (-1) (n : Int) with | (lo, hi) => pure (lo, (-1 : Int), Builtin.Slice.slicePlaces lo hi (-1))) _ _ s
  rw [adjust_rev n]
  show wpAny _ _ (pure ((n : Int) - 1, (-1 : Int), Builtin.Slice.slicePlaces ((n : Int) - 1) (-1) (-1))) _ _ s
  rw [places_rev]
  exact wpAny_pure h
theorem pick_rev (xs : Array Value) : ((List.range xs.size).filterMap fun (m : Nat) => xs[(((xs.size : Int) - 1) + (m : Int) * (-1)).toNat]?).toArray = xs.toList.reverse.toArray := by
  congr 1
  apply List.ext_getElem?
  intro i
  have e : ∀ l : List Nat, (∀ m ∈ l, m < xs.size) → l.filterMap (fun (m : Nat) => xs[(((xs.size : Int) - 1) + (m : Int) * (-1)).toNat]?) = l.map (fun m => xs.getD (xs.size - 1 - m) .none) := by
    intro l
    induction l with
    | nil => intro _; rfl
    | cons m l ih =>
      intro hm
      have h0 := hm m (by simp)
      rw [List.filterMap_cons, List.map_cons, ih fun k hk => hm k (by simp [hk])]
      have e1 : (((xs.size : Int) - 1) + (m : Int) * (-1)).toNat = xs.size - 1 - m := by omega
      have e2 : xs.size - 1 - m < xs.size := by omega
      rw [e1, Array.getElem?_eq_getElem e2]
      simp [Array.getD, e2]
  rw [e _ fun m hm => List.mem_range.1 hm]
  by_cases hi : i < xs.size
  · have e2 : xs.size - 1 - i < xs.size := by omega
    simp [hi, Array.getD, e2, List.getElem?_reverse, List.getElem?_eq_getElem]
  · rw [List.getElem?_eq_none (by simp; omega), List.getElem?_eq_none (by simp; omega)]
theorem getItem_tuple_rev {t sl : Addr} {items : Array Value} {vs : Value} {Q : Value → Shared → Prop} (ht : IsTup s.heap t items) (hs : s.heap.IsSliceOf sl .none .none vs) (ps : IsPart vs (some (-1)))
    (h : Q (.ref s.heap.objs.size) { s with heap := s.heap.push { cls := .type "tuple", data := .seq (items.toList.reverse).toArray } })
    (hsz : items.size ≤ sizeLine) : wpAny (model prog w) A (getItem (.ref t) (.ref sl)) Q E s := by
  have htake : sizeOk (.seq (items.toList.reverse).toArray) := by
    show (items.toList.reverse).toArray.size ≤ sizeLine
    rw [List.size_toArray, List.length_reverse, Array.length_toList]
    exact hsz
  obtain ⟨os, hos, hcs, hds⟩ := id hs
  have hTs : s.TypeIs (.ref sl) "slice" := ⟨os, hos, hcs⟩
  unfold getItem
  try with_reducible refine wpAny_holding ?_
  first | refine wpAny_bind (wpAny_pure ?_) | skip
  refine wpAny_bind (wpAny_sequenceKey ht.typeIs (by decide) ?_)
  refine wpAny_bind (wpAny_callSpecial?_slot (name := Str.ofString "__getitem__") ht.typeIs PyProof.Rows.slot_tuple_getitem
    (wpAny_call_entry PyProof.Rows.slot_tuple_getitem ht.typeIs entry_tuple_getitem ?_ (args_tuple_getitem _ _)))
  show wpAny _ _ (Builtin.Tuple.tupleItemsOf (.ref t) >>= _) _ _ s
  refine wpAny_bind (tupleItemsOf_ ht ?_)
  refine wpAny_bind (wpAny_typeOf hTs ?_)
  rw [if_pos (by decide)]
  refine wpAny_bind (sliceApplied_rev hs ps ?_)
  have hno : ¬ ((((items.size : Int) - 1) == 0 && (-1 : Int) == 1 && items.size == items.size) = true) := by
    simp
  show wpAny _ _ (if (((items.size : Int) - 1) == 0 && (-1 : Int) == 1 && items.size == items.size) = true then _ else _) _ _ s
  rw [if_neg hno, pick_rev]
  first
    | exact wpAny_bind (m := Builtin.Tuple.tupleExact _) (wpAny_newObj_type (wpAny_pure ⟨_, rfl, wpAny_pure h⟩) htake)
    | exact wpAny_bind (m := Builtin.Tuple.tupleExact _) (wpAny_newObj_type (wpAny_bind (wpAny_pure (wpAny_pure ⟨_, rfl, wpAny_pure h⟩))) htake)
    | exact wpAny_bind (wpAny_bind (m := Builtin.Tuple.tupleExact _) (wpAny_newObj_type (wpAny_pure (wpAny_pure ⟨_, rfl, wpAny_pure h⟩)) htake))
    | exact wpAny_bind (wpAny_bind (m := Builtin.Tuple.tupleExact _) (wpAny_newObj_type (wpAny_pure ⟨_, rfl, wpAny_pure h⟩) htake))
end
end GuR
namespace Gu
open PySem PySem.Spec PyProof.Rows L2
def tRev (K : PySem.W.Frag) (te : TE) : TE := fun σ H Q => te σ H fun x H1 => (∃ a xs, x = .ref a ∧ SqL K H1 a xs ∧ ∀ p, H1 p = none → Q (.ref p) (upd H1 p (.lst xs.reverse))) ∨
  (∃ a xs, x = .ref a ∧ SqT K H1 a xs ∧ ∀ p, H1 p = none → Q (.ref p) (upd H1 p (.tup xs.reverse)))
theorem pe_rev {X : Cx} {e : Expr} {te : TE} {k : Nat} {p1 p2 p3 pos : Pos} (he : PE X e te) : PE X (.Subscript e (.Slice none none (some (.UnaryOp .USub (.Constant (.int 1) k p1) p2)) p3) pos) (tRev X.K te) := by
  refine ⟨fun pins s σ H Q I h => ?_⟩
  refine Subscript_ (thn (he.run pins s σ H _ I h) fun v s1 ⟨x, H1, I1, r1, q1⟩ => ?_)
  have hst : PO X (some (.UnaryOp .USub (.Constant (.int 1) k p1) p2)) (tPart (tUn (rU fun i => .int (-i)) (L2.tC (.int 1)))) := po_some (pe_un un_neg pe_int)
  refine wpAny_Slice (thn (po_none.run pins s1 σ H1 (fun o H2 => o = none ∧ H2 = H1) I1 ⟨rfl, rfl⟩) fun vl s2 ⟨l, H2, I2, pl, el, e2⟩ => ?_)
  subst el e2
  refine thn (po_none.run pins s2 σ H2 (fun o H3 => o = none ∧ H3 = H2) I2 ⟨rfl, rfl⟩) fun vu s3 ⟨u, H3, I3, pu, eu, e3⟩ => ?_
  subst eu e3
  refine thn (hst.run pins s3 σ H3 (fun o H4 => o = some (-1) ∧ H4 = H3) I3 ⟨1, rfl, -1, rfl, rfl, rfl⟩) fun vs s4 ⟨o, H4, I4, ps, eo, e4⟩ => ?_
  subst eo e4
  have I5 : Inv X pins σ H4 { s4 with heap := s4.heap.push { cls := .type "slice", data := .fields #[vl, vu, vs] } } := I4.kept (t' := s4.toks) fun b ob q => Heap.get?_push_of_some _ q
  rcases q1 with ⟨a, xs, ex, hx, q⟩ | ⟨a, xs, ex, hx, q⟩
  · subst ex
    cases r1
    obtain ⟨its, r, ht, hz⟩ := I5.list hx
    have hlen := r.length
    show wpAny (model X.prog X.w) X.A (subscriptTail e (.Slice none none (some (.UnaryOp .USub (.Constant (.int 1) k p1) p2)) p3) (.ref a) (.ref s4.heap.objs.size)) (EP X pins σ Q) X.xe { s4 with heap := s4.heap.push { cls := .type "slice", data := .fields #[vl, vu, vs] } }
    refine tail_any (ops := [.ref a, .ref s4.heap.objs.size]) ht.isList.typeIs (PySem.slot_list_getitem.lookup) ?_ (by with_unfolding_all rfl)
    refine wpAny_getItem_list_slice ht.isList (Heap.IsSliceOf.new _ vl vu vs) pl pu ps (by decide) ?_ (by rw [List.size_toArray]; omega)
    rw [PySem.W.krv_pick]
    refine ⟨.ref _, _, I5.laid (t' := s4.toks) (o := .lst xs.reverse) (fun b ob q => Heap.get?_push_of_some _ q) (Nat.le_refl _) ?_, rfl, q _ (I5.hok.fresh (Nat.le_refl _))⟩
    exact ⟨by rw [List.length_reverse]; exact hz, _, 0, r.reverse, Heap.get?_push_size _ rfl⟩
  · subst ex
    cases r1
    obtain ⟨its, r, ht, hz⟩ := I5.tuple hx
    have hlen := r.length
    cases pl
    cases pu
    show wpAny (model X.prog X.w) X.A (subscriptTail e (.Slice none none (some (.UnaryOp .USub (.Constant (.int 1) k p1) p2)) p3) (.ref a) (.ref s4.heap.objs.size)) (EP X pins σ Q) X.xe { s4 with heap := s4.heap.push { cls := .type "slice", data := .fields #[.none, .none, vs] } }
    refine tail_any (ops := [.ref a, .ref s4.heap.objs.size]) ht.typeIs (PyProof.Rows.slot_tuple_getitem.lookup) ?_ (by with_unfolding_all rfl)
    refine GuR.getItem_tuple_rev ht (Heap.IsSliceOf.new _ .none .none vs) ps ?_ (by rw [List.size_toArray]; omega)
    refine ⟨.ref _, _, I5.laid (t' := s4.toks) (o := .tup xs.reverse) (fun b ob q => Heap.get?_push_of_some _ q) (Nat.le_refl _) ?_, rfl, q _ (I5.hok.fresh (Nat.le_refl _))⟩
    exact ⟨by rw [List.length_reverse]; exact hz, _, r.reverse, IsTup.new _ _⟩
end Gu
end

section
set_option Elab.async false
set_option linter.all false
set_option maxRecDepth 100000
set_option maxHeartbeats 2000000
/-! Gsp: x[::step] of a list, the step 1 or -1; a target (o[i], name); a target of names takes a list's items. -/
namespace Gu
open PySem PySem.Spec PyProof.Rows L2
theorem one_bounds (n : Nat) : sliceBounds none none (some 1) n = (0, (n : Int), 1) := by
  simp [sliceBounds]
theorem one_range (n : Nat) : sliceRange 0 (n : Int) 1 = List.range n := by
  unfold sliceRange
  by_cases h : (n : Int) > 0
  · have e : ((n : Int) - 0 + 1 - 1) / 1 = (n : Int) := by
      rw [Int.ediv_one]; omega
    simp only [show (1 : Int) > 0 from by decide, if_true, h, e, Int.toNat_natCast]
    rw [show (List.range n) = (List.range n).map id from (List.map_id _).symm]
    rw [List.map_map]
    apply List.map_congr_left
    intro k hk
    simp
  · have e : n = 0 := by omega
    subst e
    simp
theorem one_pick (items : Array Value) : slicePick items none none (some 1) = items.toList.toArray := by
  unfold slicePick
  rw [one_bounds]
  show ((sliceRange 0 (items.size : Int) 1).filterMap (items[·]?)).toArray = _
  rw [one_range, PySem.W.krv_all]
def tStp (K : PySem.W.Frag) (te ts : TE) : TE := fun σ H Q => te σ H fun x H1 => ts σ H1 fun y H2 => ∃ k, y = .int k ∧ ∃ a xs, x = .ref a ∧ SqL K H2 a xs ∧
  ((k = 1 ∧ ∀ p, H2 p = none → Q (.ref p) (upd H2 p (.lst xs))) ∨ (k = -1 ∧ ∀ p, H2 p = none → Q (.ref p) (upd H2 p (.lst xs.reverse))))
theorem pe_stp {X : Cx} {e f : Expr} {te tf : TE} {p3 pos : Pos} (he : PE X e te) (hf : PE X f tf) : PE X (.Subscript e (.Slice none none (some f) p3) pos) (tStp X.K te tf) := by
  refine ⟨fun pins s σ H Q I h => ?_⟩
  refine Subscript_ (thn (he.run pins s σ H _ I h) fun v s1 ⟨x, H1, I1, r1, q1⟩ => ?_)
  have hst : PO X (some f) (tPart tf) := po_some hf
  refine wpAny_Slice (thn (po_none.run pins s1 σ H1 (fun o H2 => o = none ∧ H2 = H1) I1 ⟨rfl, rfl⟩) fun vl s2 ⟨l, H2, I2, pl, el, e2⟩ => ?_)
  subst el e2
  refine thn (po_none.run pins s2 σ H2 (fun o H3 => o = none ∧ H3 = H2) I2 ⟨rfl, rfl⟩) fun vu s3 ⟨u, H3, I3, pu, eu, e3⟩ => ?_
  subst eu e3
  refine thn (hst.run pins s3 σ H3 (fun o H4 => match o with
    | none => False
    | some k => ∃ a xs, x = .ref a ∧ SqL X.K H4 a xs ∧ ((k = 1 ∧ ∀ p, H4 p = none → Q (.ref p) (upd H4 p (.lst xs))) ∨ (k = -1 ∧ ∀ p, H4 p = none → Q (.ref p) (upd H4 p (.lst xs.reverse))))) I3 q1) fun vs s4 ⟨o, H4, I4, ps, q4⟩ => ?_
  · cases o with
    | none => exact q4.elim
    | some k =>
    obtain ⟨a, xs, ex, hx, q⟩ := q4
    subst ex
    cases r1
    have I5 : Inv X pins σ H4 { s4 with heap := s4.heap.push { cls := .type "slice", data := .fields #[vl, vu, vs] } } := I4.kept (t' := s4.toks) fun b ob q => Heap.get?_push_of_some _ q
    obtain ⟨its, r, ht, hz⟩ := I5.list hx
    have hlen := r.length
    show wpAny (model X.prog X.w) X.A (subscriptTail e (.Slice none none (some f) p3) (.ref a) (.ref s4.heap.objs.size)) (EP X pins σ Q) X.xe { s4 with heap := s4.heap.push { cls := .type "slice", data := .fields #[vl, vu, vs] } }
    refine tail_any (ops := [.ref a, .ref s4.heap.objs.size]) ht.isList.typeIs (PySem.slot_list_getitem.lookup) ?_ (by with_unfolding_all rfl)
    rcases q with ⟨rfl, q⟩ | ⟨rfl, q⟩
    · refine wpAny_getItem_list_slice ht.isList (Heap.IsSliceOf.new _ vl vu vs) pl pu ps (by decide) ?_ (by rw [List.size_toArray]; omega)
      rw [one_pick]
      refine ⟨.ref _, _, I5.laid (t' := s4.toks) (o := .lst xs) (fun b ob q => Heap.get?_push_of_some _ q) (Nat.le_refl _) ?_, rfl, q _ (I5.hok.fresh (Nat.le_refl _))⟩
      exact ⟨hz, _, 0, r, Heap.get?_push_size _ rfl⟩
    · refine wpAny_getItem_list_slice ht.isList (Heap.IsSliceOf.new _ vl vu vs) pl pu ps (by decide) ?_ (by rw [List.size_toArray]; omega)
      rw [PySem.W.krv_pick]
      refine ⟨.ref _, _, I5.laid (t' := s4.toks) (o := .lst xs.reverse) (fun b ob q => Heap.get?_push_of_some _ q) (Nat.le_refl _) ?_, rfl, q _ (I5.hok.fresh (Nat.le_refl _))⟩
      exact ⟨by rw [List.length_reverse]; exact hz, _, 0, r.reverse, Heap.get?_push_size _ rfl⟩
end Gu
end

section
set_option Elab.async false
set_option linter.all false
set_option maxRecDepth 100000
/-! Gm: max(xs, default=d) of a list of ints. -/
namespace Gu
open PySem PySem.Spec PyProof.Rows L2
theorem hold_ints {h : Heap} : ∀ {vs : List Value} {ns : List Int}, IntsAre vs ns → PySem.W.HoldAll h vs ns
  | _, _, .nil => PySem.W.HoldAll.nil
  | _, _, .cons _ _ r => by
    obtain ⟨as, x⟩ := hold_ints (h := h) r
    exact ⟨_, .cons (.int _ _) x⟩
def rMxd (K : PySem.W.Frag) : List V → List V → Hp → VK → Prop := fun xs zs H Q => ∃ a ns d, xs = [.ref a] ∧ zs = [.int d] ∧ SqL K H a (ns.map V.int) ∧ Q (.int (topL d ns)) H
theorem cr_mxd {X : Cx} (hc : X.calm = true) (hu : X.A.units + 64 < cLine) : CallRK X (.builtin "max") ["default"] (rMxd X.K) := by
  intro pins s σ H xs zs us ws Q I r1 r2 h
  obtain ⟨a, ns, d, rfl, rfl, hs, q⟩ := h
  obtain ⟨its, rv, hl, _⟩ := I.list hs
  rw [Vals.ref1 r1]
  cases r2 with
  | cons e1 e2 =>
    cases e2
    obtain ⟨t, rfl⟩ := e1
    show wpAny _ _ (call (.builtin "max") [.ref a] [(Str.ofString "default", _)]) _ _ _
    refine PySem.W.max_list_datum_default (I.ok.hd hc) hl.isList (hold_ints (vs := its.toArray.toList) rv.ints) (by show X.A.units + 1 + 0 < cLine; omega) (fun e h' tk hk => ?_) (fun y ys i v h' tk e hi hv hk => ?_)
    · subst e
      exact ⟨.int d, H, I.kept hk, ⟨_, rfl⟩, q⟩
    · subst e
      obtain ⟨as, hv⟩ := hv
      have e2 : ∀ {m : Int}, Reads h' v (.int m) as → ∃ t, v = .int m t := by
        intro m hm
        cases hm
        exact ⟨_, rfl⟩
      obtain ⟨t', rfl⟩ := e2 (m := PySem.W.maxOf y ys) hv
      have e3 : PySem.W.maxOf y ys = topL d (y :: ys) := by
        unfold PySem.W.maxOf topL
        congr 1
        funext a b
        show (if decide (a < b) = true then b else a) = _
        by_cases c : a < b <;> simp [c]
      rw [e3]
      exact ⟨.int _, H, I.kept hk, ⟨_, rfl⟩, q⟩
end Gu
end

section
set_option Elab.async false
set_option linter.all false
set_option maxRecDepth 100000
set_option maxHeartbeats 4000000
/-! Gu9: expressions are sound. -/
namespace Gu
open PySem PySem.Spec PyProof.Rows L2
section
variable {G : GT} {N : List Str} {call : CallT}
theorem sgl {X : Cx} {fo : Option Scope} {sc : Scope} (ok : XOk G N call fo sc X W) {x : Str} (h : glB sc x = true) : Gl X x := by
  unfold glB at h
  split at h
  · rename_i e
    show X.env.scope.names.lookup x = _
    rw [ok.sc]
    exact e
  · cases h
theorem svis {X : Cx} {fo : Option Scope} {sc : Scope} (ok : XOk G N call fo sc X W) {x : Str} (h : visB sc x = true) : Vis X.env.scope x := by
  unfold Vis
  rw [ok.sc]
  unfold visB at h
  split at h
  · rename_i e; exact .inl e
  · rename_i e; exact .inr (.inl e)
  · rename_i e; exact .inr (.inr e)
  · cases h
theorem odd_of {x : Str} (h : (!oddN x) = true) : (x == ("__debug__" : Str)) = false ∧ (x == ("__classdict__" : Str)) = false ∧ x ≠ ("__name__" : Str) := by
  unfold oddN at h
  simp only [Bool.not_eq_true', Bool.or_eq_false_iff] at h
  exact ⟨h.1.1, h.1.2, fun e => by have := h.2; simp [e] at this⟩
theorem pt_ifExp {X : Cx} {c a b : Expr} {pos : Pos} {tc ta tb : TT} (hc : PT X c tc) (ha : PT X a ta) (hb : PT X b tb) : PT X (.IfExp c a b pos) (fun σ H Q => tc σ H fun k H1 => if k = true then ta σ H1 Q else tb σ H1 Q) := by
  refine ⟨fun pins s σ H Q I h => ?_⟩
  have e : isTrue (.IfExp c a b pos) X.env (eval (.IfExp c a b pos) X.env) = (do if ← isTrue c X.env (eval c X.env) then isTrue a X.env (eval a X.env) else isTrue b X.env (eval b X.env)) := by rfl
  rw [e]
  refine wpAny_bind (thn (hc.run pins s σ H _ I h) fun k s1 ⟨H1, I1, q1⟩ => ?_)
  cases k with
  | true => exact ha.run pins s1 σ H1 Q I1 q1
  | false => exact hb.run pins s1 σ H1 Q I1 q1
theorem s_nil {X : Cx} {W : L2.St → XW} {fo : Option Scope} {sc : Scope} {nd : Nd} (ok : XOk G N call fo sc X W) (h : okE G N .nil fo sc nd = true) : Snd X W call .nil nd := by
  unfold okE at h
  split at h
  all_goals first | contradiction | (cases h; done) | skip
  · refine ⟨PA.imp pa_nil fun σ H Q q => tA_nil rfl q, fun _ => PTs.imp pts_nil fun σ H Q q => ?_⟩
    obtain ⟨ρ, h, L, rs, hr, q⟩ := q
    exact outV.here q hr
  · refine PO.imp po_none fun σ H Q q => ?_
    obtain ⟨ρ, h, L, rs, hr, q⟩ := q
    exact outV.here q hr
theorem s_var {X : Cx} {W : L2.St → XW} {fo : Option Scope} {sc : Scope} {nd : Nd} {i : Nat} (ok : XOk G N call fo sc X W) (h : okE G N (.var i) fo sc nd = true) : Snd X W call (.var i) nd := by
  unfold okE at h
  split at h
  all_goals first | contradiction | (cases h; done) | skip
  rename_i he
  cases he
  simp only [Bool.and_eq_true, decide_eq_true_eq] at h
  obtain ⟨o1, o2, _⟩ := odd_of h.2
  refine SndE.of _ rfl rfl ?_
  refine PE.imp (pe_var (i := i) (by rw [ok.names]; exact h.1.1) (svis ok h.1.2) o1 o2) fun σ H Q q => ?_
  obtain ⟨ρ, hp, L, rs, hr, q⟩ := q
  obtain ⟨v, e1, q1⟩ := outV.ofO (o := (ρ[i]?).join) q hr
  have e2 : ρ[i]? = some (some v) := by
    cases e : ρ[i]? with
    | none => rw [e] at e1; cases e1
    | some w => rw [e] at e1; have e1' : w = some v := e1; rw [e1']
  obtain ⟨z, e3, hz⟩ := rs.at_ _ _ e2
  exact ⟨z, e3, q1 z hz⟩
theorem s_bin {X : Cx} {W : L2.St → XW} {fo : Option Scope} {sc : Scope} {nd : Nd} {o : Operator} {a b : E} (ok : XOk G N call fo sc X W)
    (iha : ∀ x, okE G N a fo sc (.e x) = true → SndE X W call a x) (ihb : ∀ x, okE G N b fo sc (.e x) = true → SndE X W call b x) (h : okE G N (.bin o a b) fo sc nd = true) : Snd X W call (.bin o a b) nd := by
  unfold okE at h
  split at h
  all_goals first | contradiction | (cases h; done) | skip
  rename_i he
  cases he
  simp only [Bool.and_eq_true, decide_eq_true_eq] at h
  obtain ⟨⟨rfl, h1⟩, h2⟩ := h
  exact SndE.of _ rfl rfl (PE.imp (pe_op (opr_any fun W => opr_bin _) (iha _ h1).pe (ihb _ h2).pe) fun σ H Q q => t_two (fun _ _ => rfl) q)
theorem s_cst {X : Cx} {W : L2.St → XW} {fo : Option Scope} {sc : Scope} {nd : Nd} {v : Val} (ok : XOk G N call fo sc X W)
     (h : okE G N (.cst v) fo sc nd = true) : Snd X W call (.cst v) nd := by
  unfold okE at h
  split at h
  all_goals first | contradiction | (cases h; done) | skip
  rename_i he
  cases he
  refine SndE.of _ rfl rfl ?_
  have fin : ∀ {σ H Q} {z : V}, (∀ H L, RV X.K H L v z) → tV X.K W call (.cst v) σ H Q → Q z H := fun {σ H Q z} hz q => by
    obtain ⟨ρ, hh, L, rs, hr, q⟩ := q
    exact outV.here q hr z (hz _ _)
  unfold okC at h
  split at h
  · exact PE.imp pe_non fun σ H Q q => fin (fun _ _ => .mk_non) q
  · rw [← eq_of_beq h]
    exact PE.imp pe_bl fun σ H Q q => fin (fun _ _ => .mk_bl) q
  · rw [← eq_of_beq h]
    exact PE.imp pe_int fun σ H Q q => fin (fun _ _ => .mk_int) q
  · simp only [Bool.and_eq_true, decide_eq_true_eq, List.all_eq_true] at h
    obtain ⟨⟨rfl, h1⟩, h2⟩ := h
    exact PE.imp pe_str fun σ H Q q => fin (fun _ _ => .mk_str ⟨h1, h2⟩) q
  · cases h
theorem s_glb {X : Cx} {W : L2.St → XW} {fo : Option Scope} {sc : Scope} {nd : Nd} {x : Str} {v : Val} (ok : XOk G N call fo sc X W)
     (h : okE G N (.glb x v) fo sc nd = true) : Snd X W call (.glb x v) nd := by
  unfold okE at h
  split at h
  all_goals first | contradiction | (cases h; done) | skip
  rename_i he
  cases he
  simp only [Bool.and_eq_true, decide_eq_true_eq] at h
  obtain ⟨⟨⟨rfl, h1⟩, h2⟩, h3⟩ := h
  obtain ⟨o1, o2, _⟩ := odd_of h2
  unfold glbV at h3
  split at h3
  · rename_i w e
    rw [Val.same_eq _ _ h3]
    obtain ⟨u, y, g1, g2, g3⟩ := ok.glb _ _ e
    refine SndE.of _ rfl rfl (PE.imp (pe_glob (sgl ok h1) g1 g2 o1) fun σ H Q q => ?_)
    obtain ⟨ρ, hh, L, rs, hr, q⟩ := q
    exact outV.here q hr y (g3 _ _)
  · cases h3
theorem s_neg {X : Cx} {W : L2.St → XW} {fo : Option Scope} {sc : Scope} {nd : Nd} {a : E} (ok : XOk G N call fo sc X W)
    (iha : ∀ x, okE G N a fo sc (.e x) = true → SndE X W call a x) (h : okE G N (.neg a) fo sc nd = true) : Snd X W call (.neg a) nd := by
  unfold okE at h
  split at h
  all_goals first | contradiction | (cases h; done) | skip
  rename_i he
  cases he
  refine SndE.of _ rfl rfl (PE.imp (pe_un (r := fun x H Q => ∃ W, ∃ gx h L, HR X.K H L h ∧ RV X.K H L gx x ∧ outV X.K W H L (match gx with | .int i => .ok (.int (-i)) h | _ => .no) (fin1 X.K Q)) (fun pins s σ H x v Q I rx ⟨W, q⟩ => unr_neg (W := W) pins s σ H x v Q I rx q) (iha _ h).pe) fun σ H Q q => ?_)
  obtain ⟨ρ, h, L, rs, hrr, q⟩ := q
  refine ⟨ρ, h, L, rs, hrr, ?_⟩
  refine (outV.bind q).imp fun v h1 H1 L1 r1 x1 q1 => ?_
  intro u hu
  exact ⟨W σ, v, h1, L1, r1, hu, q1⟩
theorem rvs_rev {K : PySem.W.Frag} {H : Hp} {L : List Addr} {vs : List Val} {xs : List V} (h : RVs K H L vs xs) : RVs K H L vs.reverse xs.reverse := by
  induction vs generalizing xs with
  | nil => rw [h.inv0]; exact RVs.nil
  | cons v vs ih =>
    obtain ⟨x, r, rfl, h1, h2⟩ := h.inv
    rw [List.reverse_cons, List.reverse_cons]
    exact (ih h2).append (RVs.cons h1 RVs.nil)
theorem s_mxd {X : Cx} {W : L2.St → XW} {fo : Option Scope} {sc : Scope} {nd : Nd} {a b : E} (ok : XOk G N call fo sc X W)
    (iha : ∀ x, okE G N a fo sc (.e x) = true → SndE X W call a x) (ihb : ∀ x, okE G N b fo sc (.e x) = true → SndE X W call b x) (h : okE G N (.mxd a b) fo sc nd = true) : Snd X W call (.mxd a b) nd := by
  unfold okE at h
  split at h
  all_goals first | contradiction | (cases h; done) | skip
  rename_i he
  cases he
  simp only [Bool.and_eq_true, decide_eq_true_eq] at h
  obtain ⟨⟨⟨⟨⟨rfl, rfl⟩, h1⟩, h2⟩, h3⟩, h4⟩ := h
  have u := ok.unb
  refine SndE.of _ rfl rfl (PE.imp (pe_callBK (cr_mxd ok.calm (by have := ok.un; omega)) (sgl ok h1) (u _ (by simp [bnames])) (by decide +kernel) (pa_cons (iha _ h3).pe pa_nil (star_cons h2)) (pk_cons (ihb _ h4).pe pk_nil)
    (by decide) (by decide) (by rw [star_cons h2]; rfl) (by rw [star_cons h2]; rfl)) fun σ H Q q => ?_)
  obtain ⟨ρ, hh, L, rs, hr, q⟩ := q
  refine ⟨ρ, hh, L, rs, hr, ?_⟩
  refine (outV.bind q).imp fun v h1 H1 L1 r1 x1 q1 => ?_
  intro z hz
  refine ⟨ρ, h1, L1, rs.mono x1, r1, ?_⟩
  refine (outV.bind q1).imp fun v2 h2 H2 L2 r2 x2 q2 => ?_
  intro z2 hz2
  have hz' := RV.mono x2 _ _ hz
  unfold mxdV at q2
  split at q2
  · obtain rfl := hz2.int_of
    split at q2
    · rename_i eq
      obtain ⟨p, rfl, hp⟩ := seq_ints r2 hz' eq
      exact ⟨p, _, _, rfl, rfl, hp, q2.here r2 _ .mk_int⟩
    · exact q2.elim
  · exact q2.elim
theorem s_rev {X : Cx} {W : L2.St → XW} {fo : Option Scope} {sc : Scope} {nd : Nd} {a : E} (ok : XOk G N call fo sc X W)
    (iha : ∀ x, okE G N a fo sc (.e x) = true → SndE X W call a x) (h : okE G N (.rev a) fo sc nd = true) : Snd X W call (.rev a) nd := by
  unfold okE at h
  split at h
  all_goals first | contradiction | (cases h; done) | skip
  rename_i he
  cases he
  refine SndE.of _ rfl rfl (PE.imp (pe_rev (iha _ h).pe) fun σ H Q q => ?_)
  obtain ⟨ρ, hh, L, rs, hr, q⟩ := q
  refine ⟨ρ, hh, L, rs, hr, ?_⟩
  refine (outV.bind q).imp fun v h1 H1 L1 r1 x1 q1 => ?_
  intro z hz
  unfold revV at q1
  split at q1
  · obtain ⟨p, xs, rfl, hp, hv⟩ := hz.tup_of
    exact .inr ⟨p, xs, rfl, hp, fun p' hn => fin_t r1 q1 (rvs_rev hv) hn⟩
  · obtain ⟨p, xs, rfl, hp, hv⟩ := hz.fro_of
    exact .inl ⟨p, xs, rfl, hp.sq, fun p' hn => fin_l r1 q1 (rvs_rev hv) hn⟩
  · split at q1
    · rename_i eq
      obtain ⟨p, xs, rfl, _, hp, hv⟩ := the_seq r1 hz eq
      exact .inl ⟨p, xs, rfl, hp, fun p' hn => fin_l r1 q1 (rvs_rev hv) hn⟩
    · exact q1.elim
  · exact q1.elim
theorem s_stp {X : Cx} {W : L2.St → XW} {fo : Option Scope} {sc : Scope} {nd : Nd} {a b : E} (ok : XOk G N call fo sc X W)
    (iha : ∀ x, okE G N a fo sc (.e x) = true → SndE X W call a x) (ihb : ∀ x, okE G N b fo sc (.e x) = true → SndE X W call b x) (h : okE G N (.stp a b) fo sc nd = true) : Snd X W call (.stp a b) nd := by
  unfold okE at h
  split at h
  all_goals first | contradiction | (cases h; done) | skip
  rename_i he
  cases he
  rw [Bool.and_eq_true] at h
  refine SndE.of _ rfl rfl (PE.imp (pe_stp (iha _ h.1).pe (ihb _ h.2).pe) fun σ H Q q => ?_)
  obtain ⟨ρ, hh, L, rs, hr, q⟩ := q
  refine ⟨ρ, hh, L, rs, hr, ?_⟩
  refine (outV.bind q).imp fun v h1 H1 L1 r1 x1 q1 => ?_
  intro z hz
  refine ⟨ρ, h1, L1, rs.mono x1, r1, ?_⟩
  refine (outV.bind q1).imp fun w h2 H2 L2 r2 x2 q2 => ?_
  intro z2 hz2
  have hz' := RV.mono x2 _ _ hz
  unfold stpV at q2
  split at q2
  · obtain rfl := hz2.int_of
    split at q2
    · rename_i eq
      obtain ⟨p, xs, rfl, _, hp, hv⟩ := the_seq r2 hz' eq
      refine ⟨_, rfl, p, xs, rfl, hp, ?_⟩
      split at q2
      · rename_i c
        exact .inl ⟨c, fun p' hn => fin_l r2 q2 hv hn⟩
      · split at q2
        · rename_i c
          exact .inr ⟨c, fun p' hn => fin_l r2 q2 (rvs_rev hv) hn⟩
        · exact q2.elim
    · exact q2.elim
  · exact q2.elim
theorem s_cmp {X : Cx} {W : L2.St → XW} {fo : Option Scope} {sc : Scope} {nd : Nd} {o : CmpOp} {a b : E} (ok : XOk G N call fo sc X W)
    (iha : ∀ x, okE G N a fo sc (.e x) = true → SndE X W call a x) (ihb : ∀ x, okE G N b fo sc (.e x) = true → SndE X W call b x) (h : okE G N (.cmp o a b) fo sc nd = true) : Snd X W call (.cmp o a b) nd := by
  unfold okE at h
  split at h
  all_goals first | contradiction | (cases h; done) | skip
  rename_i he
  cases he
  simp only [Bool.and_eq_true, decide_eq_true_eq] at h
  obtain ⟨⟨⟨rfl, hs⟩, h1⟩, h2⟩ := h
  have rule := opr_any (X := X) fun W => opr_cmp (W := W) ok.un o
  rename_i xe ye pos
  have pe : PE X (.Compare xe [o] [ye] pos) (tV X.K W call (.cmp o a b)) := PE.imp (pe_cmpR rule (iha _ h1).pe (ihb _ h2).pe (mark_of hs)) fun σ H Q q => t_two (fun _ _ => rfl) q
  refine ⟨pe, ?_, fun tg _ => PI.imp (pi_any pe) fun σ H R q => tI_any2 _ rfl rfl q, fun _ _ _ z => nomatch z⟩
  refine PT.imp (pt_cmpR rule (iha _ h1).pe (ihb _ h2).pe (mark_of hs)) fun σ H Q q => ?_
  obtain ⟨ρ, hh, L, rs, hr, q⟩ := q
  refine t_two (g := .cmp o a b) (f := fun x y h => R.ofO (cmpV o h x y) h) (fun _ _ => rfl) ⟨ρ, hh, L, rs, hr, ?_⟩
  refine (outV.bind q).imp fun v h1 H1 L1 r1 x1 q1 => ?_
  intro z hz
  split at q1
  · obtain rfl := hz.bl_of
    exact ⟨_, rfl, q1.here r1⟩
  · exact q1.elim
theorem t_chn {K : PySem.W.Frag} {W : L2.St → XW} {o p : CmpOp} {a b c : E} {σ : L2.St} {H : Hp} {Q : VK} (q : tV K W call (.chn o p a b c) σ H Q) :
    tChain (r2E K fun x y h => R.ofO (cmpV o h x y) h) (r2E K fun x y h => R.ofO (cmpV p h x y) h) (tV K W call a) (tV K W call b) (tV K W call c) σ H Q := by
  obtain ⟨ρ, h, L, rs, hrr, q⟩ := q
  refine ⟨ρ, h, L, rs, hrr, ?_⟩
  refine (outV.bind q).imp fun v h1 H1 L1 r1 x1 q1 => ?_
  intro u hu
  refine ⟨ρ, h1, L1, rs.mono x1, r1, ?_⟩
  refine (outV.bind q1).imp fun v2 h2 H2 L2 r2' x2 q2 => ?_
  intro u2 hu2
  refine ⟨W σ, v, v2, h2, L2, r2', RV.mono x2 _ _ hu, hu2, ?_⟩
  refine (outV.bind q2).imp fun v3 h3 H3 L3 r3 x3 q3 => ?_
  intro z hz
  split at q3
  · obtain rfl := hz.bl_of
    refine ⟨true, rfl, ?_⟩
    simp only [if_true]
    refine ⟨ρ, h3, L3, rs.mono (x1.trans (x2.trans x3)), r3, ?_⟩
    refine (outV.bind q3).imp fun v4 h4 H4 L4 r4 x4 q4 => ?_
    intro w hw
    exact ⟨W σ, v2, v4, h4, L4, r4, RV.mono (x3.trans x4) _ _ hu2, hw, q4⟩
  · obtain rfl := hz.bl_of
    refine ⟨false, rfl, ?_⟩
    simp only [Bool.false_eq_true, if_false]
    exact q3.here r3 _ .mk_bl
  · exact q3.elim
theorem last_of {o p : CmpOp} {b c : Expr} (h : noSet c = true) : lastMarks [o, p] [b, c] = false := mark_of h
theorem s_chn {X : Cx} {W : L2.St → XW} {fo : Option Scope} {sc : Scope} {nd : Nd} {o p : CmpOp} {a b c : E} (ok : XOk G N call fo sc X W)
    (iha : ∀ x, okE G N a fo sc (.e x) = true → SndE X W call a x) (ihb : ∀ x, okE G N b fo sc (.e x) = true → SndE X W call b x) (ihc : ∀ x, okE G N c fo sc (.e x) = true → SndE X W call c x) (h : okE G N (.chn o p a b c) fo sc nd = true) : Snd X W call (.chn o p a b c) nd := by
  unfold okE at h
  split at h
  all_goals first | contradiction | (cases h; done) | skip
  rename_i he
  cases he
  simp only [Bool.and_eq_true, decide_eq_true_eq] at h
  obtain ⟨⟨⟨⟨⟨⟨rfl, rfl⟩, hs1⟩, hs⟩, h1⟩, h2⟩, h3⟩ := h
  have rule := opr_any (X := X) fun W => opr_cmp (W := W) ok.un o
  have rule' := opr_any (X := X) fun W => opr_cmp (W := W) ok.un p
  rename_i xe ye ze pos
  have pe : PE X (.Compare xe [o, p] [ye, ze] pos) (tV X.K W call (.chn o p a b c)) := PE.imp (pe_chain rule rule' (iha _ h1).pe (ihb _ h2).pe (ihc _ h3).pe (last_of hs)) fun σ H Q q => t_chn q
  refine ⟨pe, ?_, fun tg _ => PI.imp (pi_any pe) fun σ H R q => tI_any2 _ rfl rfl q, fun _ _ _ z => nomatch z⟩
  refine PT.imp (pt_chain rule rule' (iha _ h1).pe (ihb _ h2).pe (ihc _ h3).pe (last_of hs)) fun σ H Q q => ?_
  obtain ⟨ρ, hh, L, rs, hr, q⟩ := q
  refine t_chn (o := o) (p := p) ⟨ρ, hh, L, rs, hr, ?_⟩
  refine (outV.bind q).imp fun v h1 H1 L1 r1 x1 q1 => ?_
  intro z hz
  split at q1
  · obtain rfl := hz.bl_of
    exact ⟨_, rfl, q1.here r1⟩
  · exact q1.elim
theorem s_d1 {X : Cx} {W : L2.St → XW} {fo : Option Scope} {sc : Scope} {nd : Nd} {a b : E}
    (iha : ∀ x, okE G N a fo sc (.e x) = true → SndE X W call a x) (ihb : ∀ x, okE G N b fo sc (.e x) = true → SndE X W call b x) (h : okE G N (.d1 a b) fo sc nd = true) : Snd X W call (.d1 a b) nd := by
  unfold okE at h
  split at h
  all_goals first | contradiction | (cases h; done) | skip
  rename_i he
  cases he
  simp only [Bool.and_eq_true, decide_eq_true_eq] at h
  obtain ⟨h1, h2⟩ := h
  refine SndE.of _ rfl rfl (PE.imp (pe_disp (pps_cons (iha _ h1).pe (ihb _ h2).pe pps_nil) rfl rfl (by simp) (by simp)) fun σ H Q q => ?_)
  obtain ⟨ρ, hh, L, rs, hr, q⟩ := q
  intro p hp
  have hr' := hr.addD hp
  have ex : Ext X.K H L (upd H p (.dK [])) (L ++ [p]) := Ext.add hp
  refine ⟨ρ, _, _, rs.mono ex, hr', ?_⟩
  have q' : outV X.K (W σ) (upd H p (.dK [])) (L ++ [p]) (((ev call a).v ρ (hh ++ [.dct []])).bind fun x h1 => ((ev call b).v ρ h1).bind fun y h2 => d1V hh.length x y h2) (fin1 X.K Q) := outV.from ex q
  refine (outV.bind q').imp fun v h1 H1 L1 r1 x1 q1 => ?_
  intro u hu
  refine ⟨ρ, h1, L1, rs.mono (ex.trans x1), r1, ?_⟩
  refine (outV.bind q1).imp fun v2 h2 H2 L2 r2 x2 q2 => ?_
  intro u2 hu2
  unfold d1V at q2
  split at q2
  · rename_i eh
    split at q2
    · rename_i ck
      obtain ⟨p', ep, e1⟩ := (RV.mono (x1.trans x2) _ _ (RV.newLoc hr)).loc_of
      cases e1
      obtain ⟨kvs, hp2, hd⟩ := r2.at eh ep
      have e0 : kvs = [] := hd
      subst e0
      obtain ⟨k, hk, rfl⟩ := key_of (RV.mono x2 _ _ hu) ck
      obtain ⟨r', x'⟩ := r2.writeD ep hp2 (RD.append (ps := []) (kvs := []) rfl hk (RV.mono x2 _ _ hu) hu2)
      exact ⟨hp2, [(k, u2)], rfl, by simp, q2 _ _ r' x' _ (RV.mono x' _ _ (RV.mono (x1.trans x2) _ _ (RV.newLoc hr)))⟩
    · exact q2.elim
  · exact q2.elim
theorem s_and {X : Cx} {W : L2.St → XW} {fo : Option Scope} {sc : Scope} {nd : Nd} {a b : E} (ok : XOk G N call fo sc X W)
    (iha : ∀ x, okE G N a fo sc (.e x) = true → SndE X W call a x) (ihb : ∀ x, okE G N b fo sc (.e x) = true → SndE X W call b x) (h : okE G N (.and_ a b) fo sc nd = true) : Snd X W call (.and_ a b) nd := by
  unfold okE at h
  split at h
  all_goals first | contradiction | (cases h; done) | skip
  rename_i he
  cases he
  simp only [Bool.and_eq_true, decide_eq_true_eq] at h
  obtain ⟨h1, h2⟩ := h
  have sa := iha _ h1
  have sb := ihb _ h2
  rename_i xe ye rest pos
  have pb : PE X (.BoolOp .And (ye :: rest) pos) (tV X.K W call b) := by
    cases rest with
    | nil => exact pe_one sb.pe
    | cons z r => exact sb.pe
  have wb : PW X (.BoolOp .And (ye :: rest) pos) (tT X.K W call b) := by
    cases rest with
    | nil => exact pw_and1 sb.pt
    | cons z r => exact sb.pw _ _ _ rfl
  have pe : PE X (.BoolOp .And (xe :: ye :: rest) pos) (tV X.K W call (.and_ a b)) := PE.imp (pe_andT sa.pe pb) fun σ H Q q => by
    obtain ⟨ρ, hh, L, rs, hr, q⟩ := q
    refine ⟨ρ, hh, L, rs, hr, ?_⟩
    refine (outV.bind q).imp fun v h1 H1 L1 r1 x1 q1 => ?_
    intro z hz
    obtain ⟨k, e1, q2⟩ := (outV.bind q1).ofO r1
    refine ⟨k, tru_of r1 hz e1, ?_⟩
    cases k with
    | true => exact ⟨ρ, h1, L1, rs.mono x1, r1, q2⟩
    | false => exact outV.here q2 r1 z hz
  have pw : PW X (.BoolOp .And (xe :: ye :: rest) pos) (tT X.K W call (.and_ a b)) := PW.imp (pw_and sa.pt wb) fun σ H Q q => by
    obtain ⟨ρ, hh, L, rs, hr, q⟩ := q
    refine ⟨ρ, hh, L, rs, hr, ?_⟩
    refine (outV.bind q).imp fun v h1 H1 L1 r1 x1 q1 => ?_
    cases v with
    | true => exact ⟨ρ, h1, L1, rs.mono x1, r1, q1⟩
    | false => exact outV.here q1 r1
  exact ⟨pe, pw.pt, fun tg _ => PI.imp (pi_any pe) fun σ H R q => tI_any2 _ rfl rfl q, fun _ _ _ z => by cases z; exact pw⟩
theorem s_or {X : Cx} {W : L2.St → XW} {fo : Option Scope} {sc : Scope} {nd : Nd} {a b : E} (ok : XOk G N call fo sc X W)
    (iha : ∀ x, okE G N a fo sc (.e x) = true → SndE X W call a x) (ihb : ∀ x, okE G N b fo sc (.e x) = true → SndE X W call b x) (h : okE G N (.or_ a b) fo sc nd = true) : Snd X W call (.or_ a b) nd := by
  unfold okE at h
  split at h
  all_goals first | contradiction | (cases h; done) | skip
  rename_i he
  cases he
  simp only [Bool.and_eq_true, decide_eq_true_eq] at h
  obtain ⟨h1, h2⟩ := h
  have sa := iha _ h1
  have sb := ihb _ h2
  rename_i xe ye rest pos
  have pb : PE X (.BoolOp .Or (ye :: rest) pos) (tV X.K W call b) := by
    cases rest with
    | nil => exact pe_one sb.pe
    | cons z r => exact sb.pe
  have wb : PW X (.BoolOp .Or (ye :: rest) pos) (tT X.K W call b) := by
    cases rest with
    | nil => exact pw_or1 sb.pt
    | cons z r => exact sb.pw _ _ _ rfl
  have pe : PE X (.BoolOp .Or (xe :: ye :: rest) pos) (tV X.K W call (.or_ a b)) := PE.imp (pe_orT sa.pe pb) fun σ H Q q => by
    obtain ⟨ρ, hh, L, rs, hr, q⟩ := q
    refine ⟨ρ, hh, L, rs, hr, ?_⟩
    refine (outV.bind q).imp fun v h1 H1 L1 r1 x1 q1 => ?_
    intro z hz
    obtain ⟨k, e1, q2⟩ := (outV.bind q1).ofO r1
    refine ⟨k, tru_of r1 hz e1, ?_⟩
    cases k with
    | true => exact outV.here q2 r1 z hz
    | false => exact ⟨ρ, h1, L1, rs.mono x1, r1, q2⟩
  have pw : PW X (.BoolOp .Or (xe :: ye :: rest) pos) (tT X.K W call (.or_ a b)) := PW.imp (pw_or sa.pt wb) fun σ H Q q => by
    obtain ⟨ρ, hh, L, rs, hr, q⟩ := q
    refine ⟨ρ, hh, L, rs, hr, ?_⟩
    refine (outV.bind q).imp fun v h1 H1 L1 r1 x1 q1 => ?_
    cases v with
    | true => exact outV.here q1 r1
    | false => exact ⟨ρ, h1, L1, rs.mono x1, r1, q1⟩
  exact ⟨pe, pw.pt, fun tg _ => PI.imp (pi_any pe) fun σ H R q => tI_any2 _ rfl rfl q, fun _ _ _ z => by cases z; exact pw⟩
theorem s_not {X : Cx} {W : L2.St → XW} {fo : Option Scope} {sc : Scope} {nd : Nd} {a : E} (ok : XOk G N call fo sc X W)
    (iha : ∀ x, okE G N a fo sc (.e x) = true → SndE X W call a x) (h : okE G N (.not_ a) fo sc nd = true) : Snd X W call (.not_ a) nd := by
  unfold okE at h
  split at h
  all_goals first | contradiction | (cases h; done) | skip
  rename_i he
  cases he
  rename_i xe pos
  have pe : PE X (.UnaryOp .Not xe pos) (tV X.K W call (.not_ a)) := PE.imp (pe_notT (iha _ h).pe) fun σ H Q q => by
    obtain ⟨ρ, hh, L, rs, hr, q⟩ := q
    refine ⟨ρ, hh, L, rs, hr, ?_⟩
    refine (outV.bind q).imp fun v h1 H1 L1 r1 x1 q1 => ?_
    intro z hz
    obtain ⟨k, e1, q2⟩ := (outV.bind q1).ofO r1
    exact ⟨k, tru_of r1 hz e1, outV.here q2 r1 _ .mk_bl⟩
  refine ⟨pe, ?_, fun tg _ => PI.imp (pi_any pe) fun σ H R q => tI_any2 _ rfl rfl q, fun _ _ _ z => nomatch z⟩
  refine PT.imp (pt_not (iha _ h).pt) fun σ H Q q => ?_
  obtain ⟨ρ, hh, L, rs, hr, q⟩ := q
  refine ⟨ρ, hh, L, rs, hr, ?_⟩
  exact (outV.bind q).imp fun v h1 H1 L1 r1 x1 q1 => outV.here q1 r1
theorem s_ite {X : Cx} {W : L2.St → XW} {fo : Option Scope} {sc : Scope} {nd : Nd} {c a b : E} (ok : XOk G N call fo sc X W)
    (ihc : ∀ x, okE G N c fo sc (.e x) = true → SndE X W call c x) (iha : ∀ x, okE G N a fo sc (.e x) = true → SndE X W call a x) (ihb : ∀ x, okE G N b fo sc (.e x) = true → SndE X W call b x) (h : okE G N (.ite c a b) fo sc nd = true) : Snd X W call (.ite c a b) nd := by
  unfold okE at h
  split at h
  all_goals first | contradiction | (cases h; done) | skip
  rename_i he
  cases he
  simp only [Bool.and_eq_true, decide_eq_true_eq] at h
  obtain ⟨⟨h1, h2⟩, h3⟩ := h
  rename_i xe ye ze pos
  have pe : PE X (.IfExp xe ye ze pos) (tV X.K W call (.ite c a b)) := PE.imp (pe_ifExp (ihc _ h1).pt (iha _ h2).pe (ihb _ h3).pe) fun σ H Q q => by
    obtain ⟨ρ, hh, L, rs, hr, q⟩ := q
    refine ⟨ρ, hh, L, rs, hr, ?_⟩
    refine (outV.bind q).imp fun v h1 H1 L1 r1 x1 q1 => ?_
    cases v with
    | true => exact ⟨ρ, h1, L1, rs.mono x1, r1, q1⟩
    | false => exact ⟨ρ, h1, L1, rs.mono x1, r1, q1⟩
  refine ⟨pe, ?_, fun tg _ => PI.imp (pi_any pe) fun σ H R q => tI_any2 _ rfl rfl q, fun _ _ _ z => nomatch z⟩
  refine PT.imp (pt_ifExp (ihc _ h1).pt (iha _ h2).pt (ihb _ h3).pt) fun σ H Q q => ?_
  obtain ⟨ρ, hh, L, rs, hr, q⟩ := q
  refine ⟨ρ, hh, L, rs, hr, ?_⟩
  refine (outV.bind q).imp fun v h1 H1 L1 r1 x1 q1 => ?_
  cases v with
  | true => exact ⟨ρ, h1, L1, rs.mono x1, r1, q1⟩
  | false => exact ⟨ρ, h1, L1, rs.mono x1, r1, q1⟩
theorem s_tup {X : Cx} {W : L2.St → XW} {fo : Option Scope} {sc : Scope} {nd : Nd} {es : E} (ok : XOk G N call fo sc X W)
    (ihes : ∀ x, okE G N es fo sc (.es x) = true → SndL X W call es x) (h : okE G N (.tup es) fo sc nd = true) : Snd X W call (.tup es) nd := by
  unfold okE at h
  split at h
  all_goals first | contradiction | (cases h; done) | skip
  rename_i he
  cases he
  refine SndE.of _ rfl rfl (PE.imp (pe_tup (ihes _ h).pa) fun σ H Q q => ?_)
  obtain ⟨ρ, hh, L, rs, hr, q⟩ := q
  refine ⟨ρ, hh, L, rs, hr, ?_⟩
  refine (outV.bind q).imp fun vs h1 H1 L1 r1 x1 q1 => ?_
  intro xs hx
  split at q1
  · rename_i c
    exact ⟨by rw [← hx.length]; exact c, fun p hp => fin_t r1 q1 hx hp⟩
  · exact q1.elim
theorem s_lst {X : Cx} {W : L2.St → XW} {fo : Option Scope} {sc : Scope} {nd : Nd} {es : E} (ok : XOk G N call fo sc X W)
    (ihes : ∀ x, okE G N es fo sc (.es x) = true → SndL X W call es x) (h : okE G N (.lst es) fo sc nd = true) : Snd X W call (.lst es) nd := by
  unfold okE at h
  split at h
  all_goals first | contradiction | (cases h; done) | skip
  rename_i he
  cases he
  refine SndE.of _ rfl rfl (PE.imp (pe_lst (ihes _ h).pa) fun σ H Q q => ?_)
  obtain ⟨ρ, hh, L, rs, hr, q⟩ := q
  refine ⟨ρ, hh, L, rs, hr, ?_⟩
  refine (outV.bind q).imp fun vs h1 H1 L1 r1 x1 q1 => ?_
  intro xs hx
  split at q1
  · rename_i c
    exact ⟨by rw [← hx.length]; exact c, fun p hp => fin_l r1 q1 hx hp⟩
  · exact q1.elim
theorem s_idx {X : Cx} {W : L2.St → XW} {fo : Option Scope} {sc : Scope} {nd : Nd} {a b : E} (ok : XOk G N call fo sc X W)
    (iha : ∀ x, okE G N a fo sc (.e x) = true → SndE X W call a x) (ihb : ∀ x, okE G N b fo sc (.e x) = true → SndE X W call b x) (h : okE G N (.idx a b) fo sc nd = true) : Snd X W call (.idx a b) nd := by
  unfold okE at h
  split at h
  all_goals first | contradiction | (cases h; done) | skip
  rename_i he
  cases he
  simp only [Bool.and_eq_true, decide_eq_true_eq] at h
  obtain ⟨⟨hs, h1⟩, h2⟩ := h
  exact SndE.of _ rfl rfl (PE.imp (pe_ix (ixr_any fun W => ixr_idx) (iha _ h1).pe (ihb _ h2).pe (ix_of hs)) fun σ H Q q => t_two (fun _ _ => rfl) q)
theorem s_slc {X : Cx} {W : L2.St → XW} {fo : Option Scope} {sc : Scope} {nd : Nd} {a lo hi : E} (ok : XOk G N call fo sc X W)
    (iha : ∀ x, okE G N a fo sc (.e x) = true → SndE X W call a x) (ihlo : ∀ x, okE G N lo fo sc (match x with | none => .o none | some z => .e z) = true → PO X x (tO X.K W call lo)) (ihhi : ∀ x, okE G N hi fo sc (match x with | none => .o none | some z => .e z) = true → PO X x (tO X.K W call hi)) (h : okE G N (.slc a lo hi) fo sc nd = true) : Snd X W call (.slc a lo hi) nd := by
  unfold okE at h
  split at h
  all_goals first | contradiction | (cases h; done) | skip
  rename_i he
  cases he
  simp only [Bool.and_eq_true, decide_eq_true_eq] at h
  obtain ⟨⟨h1, h2⟩, h3⟩ := h
  refine SndE.of _ rfl rfl (PE.imp (pe_slice slr_any (iha _ h1).pe (ihlo _ h2) (ihhi _ h3)) fun σ H Q q => ?_)
  obtain ⟨ρ, hh, L, rs, hr, q⟩ := q
  refine ⟨ρ, hh, L, rs, hr, ?_⟩
  refine (outV.bind q).imp fun v h1 H1 L1 r1 x1 q1 => ?_
  intro z hz
  refine ⟨ρ, h1, L1, rs.mono x1, r1, ?_⟩
  refine (outV.bind q1).imp fun l h2 H2 L2 r2 x2 q2 => ?_
  refine ⟨ρ, h2, L2, (rs.mono x1).mono x2, r2, ?_⟩
  refine (outV.bind q2).imp fun u h3 H3 L3 r3 x3 q3 => ?_
  exact ⟨W σ, v, h3, L3, r3, RV.mono x3 _ _ (RV.mono x2 _ _ hz), q3⟩
theorem s_cons {X : Cx} {W : L2.St → XW} {fo : Option Scope} {sc : Scope} {nd : Nd} {e es : E} (ok : XOk G N call fo sc X W)
    (ihe : ∀ x, okE G N e fo sc (.e x) = true → SndE X W call e x) (ihes : ∀ x, okE G N es fo sc (.es x) = true → SndL X W call es x) (h : okE G N (.cons e es) fo sc nd = true) : Snd X W call (.cons e es) nd := by
  unfold okE at h
  split at h
  all_goals first | contradiction | (cases h; done) | skip
  rename_i he
  cases he
  simp only [Bool.and_eq_true, decide_eq_true_eq] at h
  obtain ⟨⟨hs, h1⟩, h2⟩ := h
  rename_i xe xs
  refine ⟨PA.imp (pa_cons (ihe _ h1).pe (ihes _ h2).pa (star_cons hs)) fun σ H Q q => tA_cons rfl q, fun hl => ?_⟩
  cases xs with
  | nil => exact PTs.imp (pts_one (ihe _ h1).pt) fun σ H Q q => q
  | cons z r => simp at hl
theorem s_blt {X : Cx} {W : L2.St → XW} {fo : Option Scope} {sc : Scope} {nd : Nd} {b : BI} {es : E} (ok : XOk G N call fo sc X W)
    (ihes : ∀ x, okE G N es fo sc (.es x) = true → SndL X W call es x) (h : okE G N (.blt b es) fo sc nd = true) : Snd X W call (.blt b es) nd := by
  unfold okE at h
  split at h
  all_goals first | contradiction | (cases h; done) | skip
  rename_i he
  cases he
  simp only [Bool.and_eq_true, decide_eq_true_eq] at h
  obtain ⟨⟨⟨rfl, h1⟩, h2⟩, h3⟩ := h
  unfold argB at h2
  simp only [Bool.and_eq_true] at h2
  obtain ⟨⟨h4, h5⟩, _⟩ := h2
  have g := sgl ok h1
  have ta : ∀ σ H Q, tV X.K W call (.blt b es) σ H Q → tCB (rNE X.K (biV b)) (tA X.K W call es) σ H Q := fun σ H Q q => t_args (fun _ _ => rfl) q
  have rule : CallR X (bltVal b) (rNE X.K (biV b)) := callr_any fun W => callr_blt ok.calm b
  have u := ok.unb
  refine SndE.of _ rfl rfl ?_
  cases b with
  | len => exact PE.imp (pe_callB rule g (u _ (by simp [bnames, bltName])) (by decide +kernel) (ihes _ h3).pa (by decide) (by decide) (star_cons h4) (star_plain h5)) ta
  | int => exact PE.imp (pe_callTy rule g (u _ (by simp [bnames, bltName])) (by decide +kernel) (ihes _ h3).pa (by decide) (by decide) (star_cons h4) (star_plain h5)) ta
  | str => exact PE.imp (pe_callTy rule g (u _ (by simp [bnames, bltName])) (by decide +kernel) (ihes _ h3).pa (by decide) (by decide) (star_cons h4) (star_plain h5)) ta
  | list => exact PE.imp (pe_callTy rule g (u _ (by simp [bnames, bltName])) (by decide +kernel) (ihes _ h3).pa (by decide) (by decide) (star_cons h4) (star_plain h5)) ta
  | tuple => exact PE.imp (pe_callTy rule g (u _ (by simp [bnames, bltName])) (by decide +kernel) (ihes _ h3).pa (by decide) (by decide) (star_cons h4) (star_plain h5)) ta
  | sum => exact PE.imp (pe_callB rule g (u _ (by simp [bnames, bltName])) (by decide +kernel) (ihes _ h3).pa (by decide) (by decide) (star_cons h4) (star_plain h5)) ta
  | max => exact PE.imp (pe_callB rule g (u _ (by simp [bnames, bltName])) (by decide +kernel) (ihes _ h3).pa (by decide) (by decide) (star_cons h4) (star_plain h5)) ta
  | min => exact PE.imp (pe_callB rule g (u _ (by simp [bnames, bltName])) (by decide +kernel) (ihes _ h3).pa (by decide) (by decide) (star_cons h4) (star_plain h5)) ta
  | abs => exact PE.imp (pe_callB rule g (u _ (by simp [bnames, bltName])) (by decide +kernel) (ihes _ h3).pa (by decide) (by decide) (star_cons h4) (star_plain h5)) ta
  | any => exact PE.imp (pe_callB rule g (u _ (by simp [bnames, bltName])) (by decide +kernel) (ihes _ h3).pa (by decide) (by decide) (star_cons h4) (star_plain h5)) ta
  | all => exact PE.imp (pe_callB rule g (u _ (by simp [bnames, bltName])) (by decide +kernel) (ihes _ h3).pa (by decide) (by decide) (star_cons h4) (star_plain h5)) ta
  | sorted => exact PE.imp (pe_callB rule g (u _ (by simp [bnames, bltName])) (by decide +kernel) (ihes _ h3).pa (by decide) (by decide) (star_cons h4) (star_plain h5)) ta
  | dict => exact PE.imp (pe_callTy rule g (u _ (by simp [bnames, bltName])) (by decide +kernel) (ihes _ h3).pa (by decide) (by decide) (star_cons h4) (star_plain h5)) ta
  | ord => exact PE.imp (pe_callB rule g (u _ (by simp [bnames, bltName])) (by decide +kernel) (ihes _ h3).pa (by decide) (by decide) (star_cons h4) (star_plain h5)) ta
theorem s_isi {X : Cx} {W : L2.St → XW} {fo : Option Scope} {sc : Scope} {nd : Nd} {t : TK} {a : E} (ok : XOk G N call fo sc X W)
    (iha : ∀ x, okE G N a fo sc (.e x) = true → SndE X W call a x) (h : okE G N (.isi t a) fo sc nd = true) : Snd X W call (.isi t a) nd := by
  unfold okE at h
  split at h
  all_goals first | contradiction | (cases h; done) | skip
  rename_i he
  cases he
  simp only [Bool.and_eq_true, decide_eq_true_eq] at h
  obtain ⟨⟨⟨⟨⟨rfl, h1⟩, rfl⟩, h2⟩, h3⟩, h4⟩ := h
  have u := ok.unb
  have hb : ∃ n, bootBuiltins (tkStr t) = some (.type n) ∧ n = tkName t ∧ tkStr t ∈ bnames ∧ tkStr t ≠ "__name__" ∧ (tkStr t == ("__debug__" : Str)) = false := by
    cases t <;> exact ⟨_, by decide +kernel, rfl, by simp [bnames, tkStr], by decide, by decide⟩
  obtain ⟨n, b1, rfl, b2, b3, b4⟩ := hb
  refine SndE.of _ rfl rfl (PE.imp (pe_callB (r := rIsi X.K) call_isi (sgl ok h1) (u _ (by simp [bnames])) (by decide +kernel)
    (pa_cons (iha _ h4).pe (pa_cons (pe_bltn (v := .ty (tkName t)) (sgl ok h2) (u _ b2) b1 rfl b3 b4) pa_nil (star_cons rfl)) (star_cons h3)) (by decide) (by decide) (star_cons h3) (star_plain rfl)) fun σ H Q q => ?_)
  obtain ⟨ρ, hh, L, rs, hr, q⟩ := q
  refine ⟨ρ, hh, L, rs, hr, ?_⟩
  refine (outV.bind q).imp fun v h1 H1 L1 r1 x1 q1 => ?_
  intro z hz
  obtain ⟨w, e1, q2⟩ := q1.ofO r1
  cases e2 : isiV t h1 v with
  | none => rw [e2] at e1; cases e1
  | some b =>
    rw [e2] at e1
    cases e1
    obtain ⟨ty, t1, t2⟩ := isi_of r1 t hz e2
    exact ⟨z, .ty (tkName t), .type ty, .type (tkName t), b, rfl, .ty _, t1, kit_ty t2, q2 _ .mk_bl⟩
theorem s_rng1 {X : Cx} {W : L2.St → XW} {fo : Option Scope} {sc : Scope} {nd : Nd} {a : E} (ok : XOk G N call fo sc X W)
    (iha : ∀ x, okE G N a fo sc (.e x) = true → SndE X W call a x) (h : okE G N (.rng1 a) fo sc nd = true) : Snd X W call (.rng1 a) nd := by
  unfold okE at h
  split at h
  all_goals first | contradiction | (cases h; done) | skip
  rename_i he
  cases he
  simp only [Bool.and_eq_true, decide_eq_true_eq] at h
  obtain ⟨⟨⟨rfl, h1⟩, h2⟩, h3⟩ := h
  refine ⟨PE.absurd fun σ H Q q => ?_, PT.absurd fun σ H Q q => ?_, fun tg _ => PI.imp (pi_range1 (sgl ok h1) (ok.unb _ (by simp [bnames])) (pa_cons (iha _ h3).pe pa_nil (star_cons h2)) (star_cons h2)) fun σ H R q => ?_, fun _ _ _ z => nomatch z⟩
  · obtain ⟨ρ, hh, L, rs, hr, q⟩ := q; exact q
  · obtain ⟨ρ, hh, L, rs, hr, q⟩ := q; exact q
  · obtain ⟨ρ, hh, L, rs, hr, q⟩ := q
    refine ⟨ρ, hh, L, rs, hr, ?_⟩
    refine (outV.bind q).imp fun v h1 H1 L1 r1 x1 q1 => ?_
    intro z hz
    split at q1
    · obtain rfl := hz.int_of
      split at q1
      · rename_i k c
        exact ⟨_, rfl, by omega, by omega, q1.here r1 _ rfl⟩
      · exact q1.elim
    · exact q1.elim
theorem s_rng2 {X : Cx} {W : L2.St → XW} {fo : Option Scope} {sc : Scope} {nd : Nd} {a b : E} (ok : XOk G N call fo sc X W)
    (iha : ∀ x, okE G N a fo sc (.e x) = true → SndE X W call a x) (ihb : ∀ x, okE G N b fo sc (.e x) = true → SndE X W call b x) (h : okE G N (.rng2 a b) fo sc nd = true) : Snd X W call (.rng2 a b) nd := by
  unfold okE at h
  split at h
  all_goals first | contradiction | (cases h; done) | skip
  rename_i he
  cases he
  simp only [Bool.and_eq_true, decide_eq_true_eq] at h
  obtain ⟨⟨⟨⟨⟨rfl, h1⟩, h2⟩, h3⟩, h4⟩, h5⟩ := h
  refine ⟨PE.absurd fun σ H Q q => ?_, PT.absurd fun σ H Q q => ?_, fun tg _ => PI.imp (pi_range2 (sgl ok h1) (ok.unb _ (by simp [bnames])) (pa_cons (iha _ h4).pe (pa_cons (ihb _ h5).pe pa_nil (star_cons h3)) (star_cons h2)) (by rw [star_cons h2, star_cons h3]; rfl) (star_cons h3)) fun σ H R q => ?_, fun _ _ _ z => nomatch z⟩
  · obtain ⟨ρ, hh, L, rs, hr, q⟩ := q; exact q
  · obtain ⟨ρ, hh, L, rs, hr, q⟩ := q; exact q
  · obtain ⟨ρ, hh, L, rs, hr, q⟩ := q
    refine ⟨ρ, hh, L, rs, hr, ?_⟩
    refine (outV.bind q).imp fun v h1 H1 L1 r1 x1 q1 => ?_
    intro z hz
    refine ⟨ρ, h1, L1, rs.mono x1, r1, ?_⟩
    refine (outV.bind q1).imp fun v2 h2 H2 L2 r2 x2 q2 => ?_
    intro z2 hz2
    split at q2
    · obtain rfl := hz.int_of
      obtain rfl := hz2.int_of
      split at q2
      · rename_i c
        exact ⟨_, _, rfl, by omega, q2.here r2 _ rfl⟩
      · exact q2.elim
    · exact q2.elim
theorem rvs_rg {K : PySem.W.Frag} {H : Hp} {L : List Addr} (i j : Int) : RVs K H L (rgL i (j - i).toNat) (rgV i j) := by
  unfold rgL rgV
  generalize List.range (j - i).toNat = l
  induction l with
  | nil => exact RVs.nil
  | cons x r ih => exact RVs.cons .mk_int ih
theorem s_lrg {X : Cx} {W : L2.St → XW} {fo : Option Scope} {sc : Scope} {nd : Nd} {a b : E} (ok : XOk G N call fo sc X W)
    (iha : ∀ x, okE G N a fo sc (.e x) = true → SndE X W call a x) (ihb : ∀ x, okE G N b fo sc (.e x) = true → SndE X W call b x) (h : okE G N (.lrg a b) fo sc nd = true) : Snd X W call (.lrg a b) nd := by
  unfold okE at h
  split at h
  all_goals first | contradiction | (cases h; done) | skip
  rename_i he
  cases he
  simp only [Bool.and_eq_true, decide_eq_true_eq] at h
  obtain ⟨⟨⟨⟨⟨⟨⟨rfl, rfl⟩, h1⟩, h2⟩, h3⟩, h4⟩, h5⟩, h6⟩ := h
  have b1 : ("range" : Str) ∈ bnames := by simp [bnames]
  have b2 : ("list" : Str) ∈ bnames := by simp [bnames]
  rename_i uu vv _ _
  have u1 := ok.unb _ b1
  have u2 := ok.unb _ b2
  have g1 := sgl ok h1
  have g2 := sgl ok h2
  have p1 := (iha _ h5).pe
  have p2 := (ihb _ h6).pe
  have rg := fun (p q : Pos) => prg_2 (p := p) (pos := q) g2 u1 p1 p2 (star_cons h3) (star_cons h4) (by rw [star_cons h4]; rfl)
  refine SndE.of _ rfl rfl (PE.imp (pe_listRg ok.calm g1 u2 (rg _ _) rfl) fun σ H Q q => ?_)
  obtain ⟨ρ, hh, L, rs, hr, q⟩ := q
  refine ⟨ρ, hh, L, rs, hr, ?_⟩
  refine (outV.bind q).imp fun v h1 H1 L1 r1 x1 q1 => ?_
  intro z hz
  refine ⟨ρ, h1, L1, rs.mono x1, r1, ?_⟩
  refine (outV.bind q1).imp fun v2 h2 H2 L2 r2 x2 q2 => ?_
  intro z2 hz2
  unfold lrgV at q2
  split at q2
  · obtain rfl := hz.int_of
    obtain rfl := hz2.int_of
    split at q2
    · rename_i c
      exact ⟨_, _, rfl, rfl, ⟨by omega, by omega, by omega, by omega, by omega⟩, fun p hp => fin_l r2 q2 (rvs_rg _ _) hp⟩
    · exact q2.elim
  · exact q2.elim
theorem few_of {y : Expr} {ys : List Expr} {env : Env} {pos : Pos} (h : argB y ys = true) : noStar y = true ∧ ys.all noStar = true ∧ ((backTo pos (starEach (y :: ys) env)).all (fun x => !x.1) && (backToKw pos (keywordEach [] env)).all (fun x => x.1.isSome)
      && decide ((y :: ys).length + ([] : List Keyword).length + (if ([] : List Keyword).isEmpty then 0 else 1) < 30)) = true := by
  unfold argB at h
  simp only [Bool.and_eq_true, decide_eq_true_eq] at h
  obtain ⟨⟨h1, h2⟩, h3⟩ := h
  refine ⟨h1, h2, ?_⟩
  have e : (backTo pos (starEach (y :: ys) env)).any (·.1) = false := star_plain (by rw [List.all_cons, h1, h2]; rfl)
  have e2 : (backTo pos (starEach (y :: ys) env)).all (fun x => !x.1) = true := by
    rw [List.all_eq_not_any_not]
    simpa using e
  rw [e2]
  simp only [Bool.true_and, Bool.and_eq_true, decide_eq_true_eq]
  refine ⟨rfl, ?_⟩
  simp only [List.length_cons, List.length_nil, List.isEmpty_nil, if_true]
  omega
theorem s_dnew {X : Cx} {W : L2.St → XW} {fo : Option Scope} {sc : Scope} {nd : Nd} (h : okE G N .dnew fo sc nd = true) : Snd X W call .dnew nd := by
  unfold okE at h
  split at h
  all_goals first | contradiction | (rename_i he; cases he; done) | (cases h; done) | skip
  refine SndE.of _ rfl rfl (PE.imp pe_dnewK fun σ H Q q => ?_)
  obtain ⟨ρ, hh, L, rs, hr, q⟩ := q
  intro p hp
  exact q _ _ (hr.addD hp) (Ext.add hp) _ (RV.newLoc hr)
theorem s_dget {X : Cx} {W : L2.St → XW} {fo : Option Scope} {sc : Scope} {nd : Nd} {a b : E} (ok : XOk G N call fo sc X W)
    (iha : ∀ x, okE G N a fo sc (.e x) = true → SndE X W call a x) (ihb : ∀ x, okE G N b fo sc (.e x) = true → SndE X W call b x) (h : okE G N (.dget a b) fo sc nd = true) : Snd X W call (.dget a b) nd := by
  unfold okE at h
  split at h
  all_goals first | contradiction | (cases h; done) | skip
  rename_i he
  cases he
  simp only [Bool.and_eq_true, decide_eq_true_eq] at h
  obtain ⟨⟨hs, h1⟩, h2⟩ := h
  refine SndE.of _ rfl rfl (PE.imp (pe_dget (by have := ok.un; omega) (iha _ h1).pe (ihb _ h2).pe (fun ov iv => ?_)) fun σ H Q q => ?_)
  · exact ix_of hs ov iv
  obtain ⟨ρ, hh, L, rs, hr, q⟩ := q
  refine ⟨ρ, hh, L, rs, hr, ?_⟩
  refine (outV.bind q).imp fun v h1 H1 L1 r1 x1 q1 => ?_
  intro u hu
  refine ⟨ρ, h1, L1, rs.mono x1, r1, ?_⟩
  refine (outV.bind q1).imp fun v2 h2 H2 L2 r2 x2 q2 => ?_
  intro u2 hu2
  obtain ⟨w, ew, q3⟩ := q2.ofO r2
  unfold dgetV at ew
  split at ew
  · rename_i n ps ed
    split at ew
    · rename_i hk
      obtain ⟨p, kvs, _, _, rfl, _, hp, hd⟩ := the_dct r2 (RV.mono x2 _ _ hu) ed
      obtain ⟨k, hk', rfl⟩ := key_of hu2 hk
      obtain ⟨z, ez, hz⟩ := (hd.get hk').1 w ew
      exact ⟨p, z, rfl, .inl ⟨kvs, k, .inl hp, rfl, ez.symm⟩, q3 z hz⟩
    · cases ew
  · cases ew
theorem din_of {K : PySem.W.Frag} {W : XW} {H : Hp} {L : List Addr} {h : MH} (r : HR K H L h) {ng : Bool} {x y w : Val} {zx zy : V} (hx : RV K H L x zx) (hy : RV K H L y zy) (e : dinV ng h y x = some w) : ∃ a o, zx = .ref a ∧ DGet H a zy o ∧ w = .bl (xor ng o.isSome) := by
  unfold dinV at e
  split at e
  · rename_i n ps ed
    split at e
    · rename_i hk
      obtain ⟨p, kvs, _, _, rfl, _, hp, hd⟩ := the_dct r hx ed
      obtain ⟨k, hk', rfl⟩ := key_of hy hk
      cases e
      exact ⟨p, valV kvs k, rfl, .inl ⟨kvs, k, .inl hp, rfl, rfl⟩, by rw [hd.isSome hk']⟩
    · cases e
  · cases e
theorem s_din {X : Cx} {W : L2.St → XW} {fo : Option Scope} {sc : Scope} {nd : Nd} {ng : Bool} {a b : E} (ok : XOk G N call fo sc X W)
    (iha : ∀ x, okE G N a fo sc (.e x) = true → SndE X W call a x) (ihb : ∀ x, okE G N b fo sc (.e x) = true → SndE X W call b x) (h : okE G N (.din ng a b) fo sc nd = true) : Snd X W call (.din ng a b) nd := by
  unfold okE at h
  split at h
  all_goals first | contradiction | (cases h; done) | skip
  rename_i he
  cases he
  simp only [Bool.and_eq_true, decide_eq_true_eq] at h
  obtain ⟨⟨⟨rfl, hs⟩, h1⟩, h2⟩ := h
  have main : ∀ {σ H Q}, tV X.K W call (.din ng a b) σ H Q → tV X.K W call a σ H fun y H1 => tV X.K W call b σ H1 fun x H2 => ∃ p o, x = .ref p ∧ DGet H2 p y o ∧ Q (.bl (xor ng o.isSome)) H2 := fun {σ H Q} q => by
    obtain ⟨ρ, hh, L, rs, hr, q⟩ := q
    refine ⟨ρ, hh, L, rs, hr, ?_⟩
    refine (outV.bind q).imp fun v h1 H1 L1 r1 x1 q1 => ?_
    intro u hu
    refine ⟨ρ, h1, L1, rs.mono x1, r1, ?_⟩
    refine (outV.bind q1).imp fun v2 h2 H2 L2 r2 x2 q2 => ?_
    intro u2 hu2
    obtain ⟨w, ew, q3⟩ := q2.ofO r2
    obtain ⟨p, o, e1, e2, e3⟩ := din_of (W := W σ) r2 hu2 (RV.mono x2 _ _ hu) ew
    subst e3
    exact ⟨p, o, e1, e2, q3 _ .mk_bl⟩
  rename_i xe ye pos
  have pc : PC X (if ng then .NotIn else .In) xe ye fun σ H Q => tV X.K W call a σ H fun y H1 => tV X.K W call b σ H1 fun x H2 => ∃ p o, x = .ref p ∧ DGet H2 p y o ∧ Q (.bl (xor ng o.isSome)) H2 := by
    cases ng with
    | false => exact ⟨fun pins s σ H Q I q => (pc_din (by have := ok.un; omega) (iha _ h1).pe (ihb _ h2).pe).run pins s σ H Q I (by unfold tDIn; simpa only [Bool.false_xor] using q)⟩
    | true => exact ⟨fun pins s σ H Q I q => (pc_dnotin (by have := ok.un; omega) (iha _ h1).pe (ihb _ h2).pe).run pins s σ H Q I (by unfold tDNotIn; simpa only [Bool.true_xor] using q)⟩
  have pe : PE X (.Compare xe [if ng then .NotIn else .In] [ye] pos) (tV X.K W call (.din ng a b)) := PE.imp (pe_cmp pc (mark_of hs)) fun σ H Q q => main q
  refine ⟨pe, ?_, fun tg _ => PI.imp (pi_any pe) fun σ H R q => tI_any2 _ rfl rfl q, fun _ _ _ z => nomatch z⟩
  refine PT.imp (pt_cmp pc (mark_of hs)) fun σ H Q q => ?_
  obtain ⟨ρ, hh, L, rs, hr, q⟩ := q
  refine main (Q := fun x H' => ∃ k, x = .bl k ∧ Q k H') ⟨ρ, hh, L, rs, hr, ?_⟩
  refine (outV.bind q).imp fun v h1 H1 L1 r1 x1 q1 => ?_
  intro z hz
  split at q1
  · obtain rfl := hz.bl_of
    exact ⟨_, rfl, q1.here r1⟩
  · exact q1.elim
theorem s_dgt {X : Cx} {W : L2.St → XW} {fo : Option Scope} {sc : Scope} {nd : Nd} {a b c : E} (ok : XOk G N call fo sc X W)
    (iha : ∀ x, okE G N a fo sc (.e x) = true → SndE X W call a x) (ihb : ∀ x, okE G N b fo sc (.e x) = true → SndE X W call b x) (ihc : ∀ x, okE G N c fo sc (.e x) = true → SndE X W call c x) (h : okE G N (.dgt a b c) fo sc nd = true) : Snd X W call (.dgt a b c) nd := by
  unfold okE at h
  split at h
  all_goals first | contradiction | (cases h; done) | skip
  rename_i he
  cases he
  simp only [Bool.and_eq_true, decide_eq_true_eq] at h
  obtain ⟨⟨⟨⟨⟨⟨rfl, g1⟩, g2⟩, g3⟩, h1⟩, h2⟩, h3⟩ := h
  have g4 := g3
  unfold argB at g4
  simp only [Bool.and_eq_true, decide_eq_true_eq, List.all_cons, List.all_nil, Bool.and_true] at g4
  rename_i xe ap ye ze pp
  have m : M2 X xe "get" ap ye ze pp := ⟨base_of g1, (few_of g3).2.2, g2, by rw [star_cons g4.1.1, star_cons g4.1.2]; rfl⟩
  refine SndE.of _ rfl rfl (PE.imp (pe_dget2 (by have := ok.un; omega) (iha _ h1).pe (ihb _ h2).pe (ihc _ h3).pe m) fun σ H Q q => ?_)
  obtain ⟨ρ, hh, L, rs, hr, q⟩ := q
  refine ⟨ρ, hh, L, rs, hr, ?_⟩
  refine (outV.bind q).imp fun v h1 H1 L1 r1 x1 q1 => ?_
  intro u hu
  split at q1
  · rename_i hd1
    obtain ⟨np, ed1⟩ := Option.isSome_iff_exists.mp hd1
    obtain ⟨n1, ps1⟩ := np
    obtain ⟨p, kvs1, rfl, _, rfl, ep, hp1, _⟩ := the_dct r1 hu ed1
    refine ⟨p, rfl, .inl ⟨kvs1, .inl hp1⟩, ρ, h1, L1, rs.mono x1, r1, ?_⟩
    refine (outV.bind q1).imp fun v2 h2 H2 L2 r2 x2 q2 => ?_
    intro u2 hu2
    refine ⟨ρ, h2, L2, (rs.mono x1).mono x2, r2, ?_⟩
    refine (outV.bind q2).imp fun v3 h3 H3 L3 r3 x3 q3 => ?_
    intro u3 hu3
    obtain ⟨w, ew, q4⟩ := q3.ofO r3
    unfold dgtV at ew
    split at ew
    · rename_i n ps ed
      split at ew
      · rename_i hk
        obtain ⟨p', kvs, e1, _, e2, _, hp, hd⟩ := the_dct r3 (RV.mono (x2.trans x3) _ _ hu) ed
        cases e2
        obtain ⟨k, hk', rfl⟩ := key_of (RV.mono x3 _ _ hu2) hk
        refine ⟨valV kvs k, .inl ⟨kvs, k, .inl hp, rfl, rfl⟩, ?_⟩
        cases ew
        obtain ⟨f1, f2⟩ := hd.get hk'
        cases eg : dGet ps v2 with
        | none => rw [eg] at q4; rw [f2 eg]; exact q4 _ hu3
        | some z =>
          rw [eg] at q4
          obtain ⟨zz, e5, e6⟩ := f1 z eg
          rw [e5]
          exact q4 _ e6
      · cases ew
    · cases ew
  · exact q1.elim
theorem s_deq {X : Cx} {W : L2.St → XW} {fo : Option Scope} {sc : Scope} {nd : Nd} {ng : Bool} {a b : E} (ok : XOk G N call fo sc X W)
    (iha : ∀ x, okE G N a fo sc (.e x) = true → SndE X W call a x) (ihb : ∀ x, okE G N b fo sc (.e x) = true → SndE X W call b x) (h : okE G N (.deq ng a b) fo sc nd = true) : Snd X W call (.deq ng a b) nd := by
  unfold okE at h
  split at h
  all_goals first | contradiction | (cases h; done) | skip
  rename_i he
  cases he
  simp only [Bool.and_eq_true, decide_eq_true_eq] at h
  obtain ⟨⟨⟨rfl, hs⟩, h1⟩, h2⟩ := h
  have rule := opr_any (X := X) fun W => opr_deq (W := W) ok.un ng
  rename_i xe ye pos
  have pe : PE X (.Compare xe [if ng then .NotEq else .Eq] [ye] pos) (tV X.K W call (.deq ng a b)) := PE.imp (pe_cmpR rule (iha _ h1).pe (ihb _ h2).pe (mark_of hs)) fun σ H Q q => t_two (fun _ _ => rfl) q
  refine ⟨pe, ?_, fun tg _ => PI.imp (pi_any pe) fun σ H R q => tI_any2 _ rfl rfl q, fun _ _ _ z => nomatch z⟩
  refine PT.imp (pt_cmpR rule (iha _ h1).pe (ihb _ h2).pe (mark_of hs)) fun σ H Q q => ?_
  obtain ⟨ρ, hh, L, rs, hr, q⟩ := q
  refine t_two (g := .deq ng a b) (f := fun x y h => R.ofO (deqV ng h x y) h) (fun _ _ => rfl) ⟨ρ, hh, L, rs, hr, ?_⟩
  refine (outV.bind q).imp fun v h1 H1 L1 r1 x1 q1 => ?_
  intro z hz
  split at q1
  · obtain rfl := hz.bl_of
    exact ⟨_, rfl, q1.here r1⟩
  · exact q1.elim
theorem s_enm {X : Cx} {W : L2.St → XW} {fo : Option Scope} {sc : Scope} {nd : Nd} {a : E} (ok : XOk G N call fo sc X W)
    (iha : ∀ x, okE G N a fo sc (.e x) = true → SndE X W call a x) (h : okE G N (.enm a) fo sc nd = true) : Snd X W call (.enm a) nd := by
  unfold okE at h
  split at h
  all_goals first | contradiction | (cases h; done) | skip
  rename_i he
  cases he
  simp only [Bool.and_eq_true, decide_eq_true_eq] at h
  obtain ⟨⟨⟨rfl, h1⟩, h2⟩, h3⟩ := h
  refine ⟨PE.absurd fun σ H Q q => ?_, PT.absurd fun σ H Q q => ?_, fun tg htg => ?_, fun _ _ _ z => nomatch z⟩
  · obtain ⟨ρ, hh, L, rs, hr, q⟩ := q; exact q
  · obtain ⟨ρ, hh, L, rs, hr, q⟩ := q; exact q
  · cases tg <;> first | (cases htg; done) | skip
    refine PI.imp (pi_enumA (sgl ok h1) (ok.unb _ (by simp [bnames])) (pa_cons (iha _ h3).pe pa_nil (star_cons h2)) (star_cons h2)) fun σ H R q => ?_
    obtain ⟨ρ, hh, L, rs, hr, q⟩ := q
    refine ⟨ρ, hh, L, rs, hr, ?_⟩
    refine (outV.bind q).imp fun v h1 H1 L1 r1 x1 q1 => ?_
    intro z hz
    obtain ⟨its, e1, q2⟩ := q1.ofO r1
    cases v <;> first | (cases e1; done) | skip
    · obtain ⟨p, xs, rfl, hp, hv⟩ := hz.tup_of
      cases e1
      exact .inr ⟨p, xs, rfl, hp, q2 _ ⟨p, xs, rfl, hp, hv⟩⟩
    · rename_i n
      have e1' : (seqL h1 n).map (fun xs => Items.enm n xs.length) = some its := e1
      cases eq : seqL h1 n with
      | none => rw [eq] at e1'; cases e1'
      | some vs =>
        rw [eq] at e1'
        cases e1'
        obtain ⟨p, xs, rfl, ep, hp, hv⟩ := the_seq r1 hz eq
        exact .inl ⟨p, xs, rfl, hp, q2 _ ⟨p, rfl, ep⟩⟩
end
end Gu
end

section
set_option Elab.async false
set_option linter.all false
set_option maxRecDepth 100000
set_option maxHeartbeats 4000000
/-! Gu10: calls, methods, comprehensions; all expressions. -/
namespace Gu
open PySem PySem.Spec PyProof.Rows L2

/-! ### targets -/
theorem wipe_out {i : Nat} {x : Option V} : ∀ {vs : List Nat} {σ : L2.St}, i ∉ vs → L2.wipe (σ.set i x) vs = (L2.wipe σ vs).set i x
  | [], _, _ => rfl
  | v :: vs, σ, h => by
    have h1 : i ≠ v := fun e => h (e ▸ List.mem_cons_self)
    have h2 : i ∉ vs := fun e => h (List.mem_cons_of_mem _ e)
    unfold L2.wipe
    rw [wipe_out h2, List.set_comm _ _ h1]
theorem wipe_in {i : Nat} {x : Option V} : ∀ {vs : List Nat} {σ : L2.St}, i ∈ vs → L2.wipe (σ.set i x) vs = L2.wipe σ vs
  | v :: vs, σ, h => by
    unfold L2.wipe
    by_cases h2 : i ∈ vs
    · rw [wipe_in h2]
    · have e : i = v := (List.mem_cons.mp h).resolve_right h2
      subst e
      rw [wipe_out h2, List.set_set]
section
variable {K : PySem.W.Frag} {H : Hp} {L : List Addr}
theorem g_names {Q : L2.St → Hp → Prop} : ∀ {is : List Nat} {vs : List Val} {xs : List V} {ρ ρ' : Rho} {σ : L2.St}, Slots K H L ρ σ → RVs K H L vs xs → setNs is vs ρ = some ρ' →
    (∀ σ', Slots K H L ρ' σ' → (∀ ws, (∀ i ∈ is, i ∈ ws) → L2.wipe σ' ws = L2.wipe σ ws) → Q σ' H) → gNms is xs σ H Q
  | [], [], xs, ρ, ρ', σ, rs, hv, e, q => by
    cases e
    exact ⟨hv.inv0, q σ rs fun _ _ => rfl⟩
  | i :: is, v :: vs, xs, ρ, ρ', σ, rs, hv, e, q => by
    obtain ⟨x, r, rfl, h1, h2⟩ := hv.inv
    refine ⟨x, r, rfl, ?_⟩
    refine g_names (rs.set i h1) h2 (show setNs is vs (ρ.set i (some v)) = some ρ' from e) fun σ' rs' w => q σ' rs' fun ws hw => ?_
    rw [w ws fun j hj => hw j (List.mem_cons_of_mem _ hj), wipe_in (hw i List.mem_cons_self)]
  | [], _ :: _, _, _, _, _, _, _, e, _ => by cases e
  | _ :: _, [], _, _, _, _, _, _, e, _ => by cases e
theorem setNs_len : ∀ {is : List Nat} {vs : List Val} {ρ ρ' : Rho}, setNs is vs ρ = some ρ' → is.length = vs.length
  | [], [], _, _, _ => rfl
  | i :: is, v :: vs, ρ, ρ', e => by
    have := setNs_len (show setNs is vs (ρ.set i (some v)) = some ρ' from e)
    simp [this]
  | [], _ :: _, _, _, e => by cases e
  | _ :: _, [], _, _, e => by cases e
theorem g_set {Q : L2.St → Hp → Prop} {t : NT} {v : Val} {x : V} {ρ ρ' : Rho} {σ : L2.St} (rs : Slots K H L ρ σ) (hv : RV K H L v x) (e : setN t v ρ = some ρ')
    (q : ∀ σ', Slots K H L ρ' σ' → (∀ ws, (∀ i ∈ ntIs t, i ∈ ws) → L2.wipe σ' ws = L2.wipe σ ws) → Q σ' H) : gNT K t x σ H Q := by
  cases t with
  | nm i =>
    cases e
    exact q _ (rs.set i hv) fun ws hw => wipe_in (hw i (by simp [ntIs]))
  | tp is =>
    cases v with
    | tup vs =>
      obtain ⟨a, xs, rfl, hp, hs⟩ := hv.tup_of
      exact ⟨a, xs, rfl, hp, by rw [← hs.length, setNs_len e], g_names rs hs e q⟩
    | _ => cases e
end
section
variable {G : GT} {N : List Str} {call : CallT} {X : Cx} {fo : Option Scope} {sc : Scope}
theorem stB_of (ok : XOk G N call fo sc X W) {x : Str} (h : stB fo sc x = true) : L2.Loc X.env.scope x ∧ (X.fn x = true ∨ X.env.scope.names.lookup x = some .local) := by
  unfold stB at h
  simp only [Bool.and_eq_true, Bool.or_eq_true, beq_iff_eq] at h
  obtain ⟨h1, h2⟩ := h
  refine ⟨?_, ?_⟩
  · unfold L2.Loc
    rw [ok.sc]
    unfold locB at h1
    split at h1
    · rename_i e; exact .inl e
    · rename_i e; exact .inr e
    · cases h1
  · rw [ok.sc]
    unfold locB at h1
    split at h1
    · rename_i e; exact .inr e
    · rename_i e; exact h2.imp (fun q => ok.fn x q (by rw [ok.sc]; exact e)) id
    · cases h1
theorem pg_n (ok : XOk G N call fo sc X W) {i : Nat} {e : Expr} (h : okN N fo sc i e = true) : PG X e (gName i) := by
  cases e <;> first | (cases h; done) | skip
  rename_i x pos
  have h' : (decide (N[i]? = some x) && stB fo sc x) = true := h
  simp only [Bool.and_eq_true, decide_eq_true_eq] at h'
  obtain ⟨h1, h2⟩ := h'
  obtain ⟨q1, q2⟩ := stB_of ok h2
  exact pg_name (by rw [ok.names]; exact ok.nd) (by rw [ok.names]; exact h1) q1 q2
theorem asg_name {e : Expr} {es : List Expr} {env : Env} {i : Nat} (h : okN N fo sc i e = true) : assignEach (e :: es) env = (false, assign e env) :: assignEach es env := by
  cases e <;> first | rfl | (cases h; done)
theorem pg_ns (ok : XOk G N call fo sc X W) : ∀ {is : List Nat} {es : List Expr}, okNs N fo sc is es = true → PGs X es (gNms is) ∧ (assignEach es X.env).length = is.length ∧ (assignEach es X.env).findIdx? (·.1) = none
  | [], [], _ => ⟨pgs_nil, rfl, rfl⟩
  | i :: is, e :: es, h => by
    have h' : (okN N fo sc i e && okNs N fo sc is es) = true := h
    rw [Bool.and_eq_true] at h'
    obtain ⟨q1, q2, q3⟩ := pg_ns ok h'.2
    have ea := asg_name (es := es) (env := X.env) h'.1
    refine ⟨pgs_cons (pg_n ok h'.1) q1 (by rw [ea]; rfl), by rw [ea]; simp [q2], ?_⟩
    rw [ea, List.findIdx?_cons]
    simp [q3]
  | [], _ :: _, h => by cases h
  | _ :: _, [], h => by cases h
theorem pg_t (ok : XOk G N call fo sc X W) {t : NT} {e : Expr} (h : okT N fo sc t e = true) : PG X e (gNT X.K t) := by
  cases t with
  | nm i => exact pg_n ok h
  | tp is =>
    cases e <;> first | (cases h; done) | skip
    obtain ⟨q1, q2, q3⟩ := pg_ns ok (show okNs N fo sc is _ = true from h)
    exact pg_tup ok.calm q1 q2 q3
end

/-! ### what is walked -/
section
variable {K : PySem.W.Frag} {H H0 : Hp} {L L0 : List Addr} {h : MH}
theorem ItR.get {its : Items} {J : It} (j : ItR K H0 L0 its J) (x : Ext K H0 L0 H L) (r : HR K H L h) {i : Nat} {v : Val} (hi : i < its.len) (e : its.get h i = some v) :
    J.go i H ∧ ∀ y H', J.yld i H y H' → HR K H' L h ∧ Ext K H L H' L ∧ RV K H' L v y := by
  cases its with
  | vals xs =>
    rcases j with ⟨a, ys, rfl, hp, hv⟩ | ⟨a, ys, rfl, hp, hv⟩ | ⟨s, rfl, k, rfl⟩
    · have hp' := x.tup _ _ hp
      obtain ⟨y, e1, e2⟩ := (RVs.mono x _ _ hv).get e
      refine ⟨⟨ys, y, hp', e1⟩, fun z H' ⟨e3, q⟩ => ?_⟩
      subst e3
      have := q ys hp'
      rw [e1] at this
      cases this
      exact ⟨r, .refl, e2⟩
    · have hp' := (x.fro _ _ hp).sq
      obtain ⟨y, e1, e2⟩ := (RVs.mono x _ _ hv).get e
      refine ⟨⟨ys, y, hp', e1⟩, fun z H' ⟨e3, q⟩ => ?_⟩
      subst e3
      have := q ys hp'
      rw [e1] at this
      cases this
      exact ⟨r, .refl, e2⟩
    · have e' : (s.map fun c => Val.str [c])[i]? = some v := e
      rw [List.getElem?_map] at e'
      cases es : s[i]? with
      | none => rw [es] at e'; cases e'
      | some c =>
        rw [es] at e'
        cases e'
        obtain ⟨hi, _⟩ := List.getElem?_eq_some_iff.mp es
        refine ⟨by show i < (toS s).length; rw [toS_len]; exact hi, fun z H' ⟨e3, d, e4, e5⟩ => ?_⟩
        subst e3 e5
        have e6 : s[i]? = some d := by simpa [toS] using e4
        rw [es] at e6
        cases e6
        exact ⟨r, .refl, .mk_str (k.one (List.mem_of_getElem? es))⟩
  | live n k =>
    obtain ⟨a, rfl, ea⟩ := j
    have e' : (match seqL h n with | some xs => if xs.length = k then xs[i]? else none | none => none) = some v := e
    cases eq : seqL h n with
    | none => rw [eq] at e'; cases e'
    | some vs =>
      rw [eq] at e'
      have e2 : vs[i]? = some v := by
        by_cases hk : vs.length = k
        · simpa [hk] using e'
        · simp [hk] at e'
      obtain ⟨xs, hp, hv⟩ := r.seq eq (get_pre x.pre ea)
      obtain ⟨y, e3, e4⟩ := hv.get e2
      refine ⟨⟨xs, y, hp, e3⟩, fun z H' ⟨e5, q⟩ => ?_⟩
      subst e5
      have := q xs hp
      rw [e3] at this
      cases this
      exact ⟨r, .refl, e4⟩
  | rng lo n =>
    obtain rfl : J = Itr lo n := j
    cases e
    exact ⟨hi, fun z H' ⟨e1, e2⟩ => by subst e1 e2; exact ⟨r, .refl, .mk_int⟩⟩
  | enm n k =>
    obtain ⟨a, rfl, ea⟩ := j
    have e' : (match seqL h n with | some xs => if xs.length = k then (xs[i]?).map fun x => Val.tup [.int i, x] else none | none => none) = some v := e
    cases eq : seqL h n with
    | none => rw [eq] at e'; cases e'
    | some vs =>
      rw [eq] at e'
      have e2 : (vs[i]?).map (fun x => Val.tup [.int i, x]) = some v := by
        by_cases hk : vs.length = k
        · simpa [hk] using e'
        · simp [hk] at e'
      obtain ⟨w, e3, rfl⟩ := Option.map_eq_some_iff.mp e2
      obtain ⟨xs, hp, hv⟩ := r.seq eq (get_pre x.pre ea)
      obtain ⟨y, e4, e5⟩ := hv.get e3
      refine ⟨⟨xs, y, hp, e4⟩, fun z H' ⟨T, x', e6, hn, eH, q⟩ => ?_⟩
      subst e6 eH
      have := q xs hp
      rw [e4] at this
      cases this
      have xn : Ext K H L (upd H T (.tup [.int (i : Nat), y])) L := Ext.new hn
      exact ⟨r.new hn, xn, .mk_tup (.inl (.inl upd_same)) (RVs.cons .mk_int (RVs.cons (RV.mono xn _ _ e5) RVs.nil))⟩
  | enmT vs =>
    obtain ⟨a, ys, rfl, hp, hv⟩ := j
    have e2 : (vs[i]?).map (fun x => Val.tup [.int i, x]) = some v := e
    obtain ⟨w, e3, rfl⟩ := Option.map_eq_some_iff.mp e2
    have hp' := x.tup _ _ hp
    obtain ⟨y, e4, e5⟩ := (RVs.mono x _ _ hv).get e3
    refine ⟨⟨ys, y, hp', e4⟩, fun z H' ⟨T, x', e6, hn, eH, q⟩ => ?_⟩
    subst e6 eH
    have := q ys hp'
    rw [e4] at this
    cases this
    have xn : Ext K H L (upd H T (.tup [.int (i : Nat), y])) L := Ext.new hn
    exact ⟨r.new hn, xn, .mk_tup (.inl (.inl upd_same)) (RVs.cons .mk_int (RVs.cons (RV.mono xn _ _ e5) RVs.nil))⟩
theorem ItR.fin {its : Items} {J : It} (j : ItR K H0 L0 its J) (x : Ext K H0 L0 H L) (r : HR K H L h) (e : its.fin h = true) : J.stop its.len H := by
  cases its with
  | vals xs =>
    rcases j with ⟨a, ys, rfl, hp, hv⟩ | ⟨a, ys, rfl, hp, hv⟩ | ⟨s, rfl, k, rfl⟩
    · exact ⟨ys, x.tup _ _ hp, by show ys.length ≤ xs.length; rw [hv.length]; exact Nat.le_refl _⟩
    · exact ⟨ys, (x.fro _ _ hp).sq, by show ys.length ≤ xs.length; rw [hv.length]; exact Nat.le_refl _⟩
    · show (toS s).length ≤ (s.map fun c => Val.str [c]).length
      rw [toS_len, List.length_map]
      exact Nat.le_refl _
  | live n k =>
    obtain ⟨a, rfl, ea⟩ := j
    have e' : (match seqL h n with | some xs => decide (xs.length = k) | none => false) = true := e
    cases eq : seqL h n with
    | none => rw [eq] at e'; cases e'
    | some vs =>
      rw [eq] at e'
      have hk : vs.length = k := of_decide_eq_true e'
      obtain ⟨xs, hp, hv⟩ := r.seq eq (get_pre x.pre ea)
      exact ⟨xs, hp, by show xs.length ≤ k; rw [← hv.length, hk]; exact Nat.le_refl _⟩
  | rng lo n =>
    obtain rfl : J = Itr lo n := j
    exact Nat.le_refl _
  | enm n k =>
    obtain ⟨a, rfl, ea⟩ := j
    have e' : (match seqL h n with | some xs => decide (xs.length = k) | none => false) = true := e
    cases eq : seqL h n with
    | none => rw [eq] at e'; cases e'
    | some vs =>
      rw [eq] at e'
      have hk : vs.length = k := of_decide_eq_true e'
      obtain ⟨xs, hp, hv⟩ := r.seq eq (get_pre x.pre ea)
      exact ⟨xs, hp, by show xs.length ≤ k; rw [← hv.length, hk]; exact Nat.le_refl _⟩
  | enmT vs =>
    obtain ⟨a, ys, rfl, hp, hv⟩ := j
    exact ⟨ys, x.tup _ _ hp, by show ys.length ≤ vs.length; rw [hv.length]; exact Nat.le_refl _⟩
end

section
variable {G : GT} {N : List Str} {call : CallT}
theorem nil_of {e : E} {fo : Option Scope} {sc : Scope} (h : okE G N e fo sc (.es []) = true) : e = .nil := by
  cases e <;> first | rfl | (unfold okE at h; cases h)
theorem pe_callS0 {X : Cx} {CX : CXT} {k : Nat} {f : Addr} {fd : FuncData} {ps : List Str} {sp : Sp} {E : L2.St → XK} {x : Str} {p pos : Pos} (F : FnOk X.prog X.w X.K X.mg X.base CX k f fd ps sp) (hr : Room k X.A) (hg : Gl X x) (hm : X.mg x = some (.ref f))
    (hk : PySem.W.keepIn X.K (.ref f) = true) (hb : Binds X.K fd ps []) (hx : ∀ σ, PassesAt CX X σ (E σ)) (hdb : (x == ("__debug__" : Str)) = false) : PE X (.Call (.Name x p) [] [] pos) (tCallS sp E tNil) :=
  ⟨fun pins s σ H Q I h => wpAny_Call_Name_kw (ld_glob I hg hm (PySem.W.callWith_K0 I.kIn hk (run_fnS (us := []) F hr hb (hx σ) I .nil h)) hdb)⟩
theorem s_call {X : Cx} {W : L2.St → XW} {fo : Option Scope} {sc : Scope} {nd : Nd} {f : Nat} {es : E} (ok : XOk G N call fo sc X W)
    (ihes : ∀ x, okE G N es fo sc (.es x) = true → SndL X W call es x) (h : okE G N (.call f es) fo sc nd = true) : Snd X W call (.call f es) nd := by
  unfold okE at h
  split at h
  all_goals first | contradiction | (cases h; done) | skip
  rename_i he
  cases he
  simp only [Bool.and_eq_true, decide_eq_true_eq] at h
  rename_i xs pos
  obtain ⟨⟨⟨⟨⟨h1, h2⟩, h3⟩, h4⟩, h5⟩, h6⟩ := h
  have o1 := (odd_of h3).1
  obtain ⟨fa, fd, ps, k, F, hr, hm, hk, hb, hl⟩ := ok.fns _ _ _ h1
  replace hr := hr.mono (Nat.le_add_right _ _)
  replace hm := role_glob hm (Option.isNone_iff_eq_none.mp h6)
  have key : ∀ σ H Q, tV X.K W call (.call f es) σ H Q → tCallS (spG X.K G call f xs.length) (WE (wxOf X.K G W)) (tA X.K W call es) σ H Q := fun σ H Q q => by
    obtain ⟨ρ, hh, L, rs, hrr, q⟩ := q
    refine ⟨ρ, hh, L, rs, hrr, ?_⟩
    refine (outV.bind q).imp fun vs h1' H1 L1 r1 x1 q1 => ?_
    intro us hu
    have hlen : vs.length = xs.length := by
      by_cases c : vs.length = xs.length
      · exact c
      · rw [ok.len _ _ _ vs h1' h1 c] at q1
        exact q1.elim
    refine ⟨by rw [← hu.length]; exact hlen, vs, h1', L1, r1, hu, ?_⟩
    cases e : call f vs h1' with
    | no => rw [e] at q1; exact q1.elim
    | ok v h2 => rw [e] at q1; exact q1
    | ex c as h2 => rw [e] at q1; exact fun H2 L2 r2 x2 cls d xr => ⟨c, as, h2, L2, xr, r2, q1 H2 L2 r2 x2⟩
  refine SndE.of _ rfl rfl ?_
  cases xs with
  | nil =>
    have e := nil_of h5
    subst e
    exact PE.imp (pe_callS0 F hr (sgl ok h2) hm hk hb (fun σ => passAt ok.tk σ) o1) fun σ H Q q => tA_nil rfl (key σ H Q q)
  | cons y ys =>
    rw [List.all_cons, Bool.and_eq_true] at h4
    exact PE.imp (pe_callS F hr (sgl ok h2) hm hk hb (fun σ => passAt ok.tk σ) (ihes _ h5).pa o1 (star_cons h4.1) (star_plain h4.2)) key

/-! ### objects of own classes -/
theorem obj_of {K : PySem.W.Frag} {H : Hp} {L : List Addr} {h : MH} (r : HR K H L h) {n : Nat} {x : V} {c : Str} {fs : List (Str × Val)} (hv : RV K H L (.loc n) x) (e : h[n]? = some (.obj c fs)) :
    ∃ a dx xs, x = .ref a ∧ L[n]? = some a ∧ H a = some (.ins (He.ga K c) dx xs) ∧ RF K H L fs xs ∧ OK1 K c fs := by
  obtain ⟨a, h1, rfl⟩ := hv.loc_of
  obtain ⟨dx, xs, h2, h3, h4⟩ := r.at e h1
  exact ⟨a, dx, xs, rfl, h1, h2, h3, h4⟩
theorem fld_of {K : PySem.W.Frag} {H : Hp} {L : List Addr} {h : MH} (r : HR K H L h) {v w : Val} {x : V} {f : Str} (hv : RV K H L v x) (e : fldV h v f = some w) :
    ∃ a dx c xs y, x = .ref a ∧ H a = some (.ins (He.ga K c) dx xs) ∧ Cls K (He.ga K c) ∧ NoAttr K (He.ga K c) f ∧ xs.lookup f = some y ∧ RV K H L w y := by
  unfold fldV at e
  split at e
  · split at e
    · rename_i c fs eh
      obtain ⟨a, dx, xs, rfl, _, h2, h3, h4⟩ := obj_of r hv eh
      obtain ⟨y, h5, h6⟩ := h3.some_of e
      have hm : ∃ q ∈ fs, q.1 = f := by
        have : ∀ {l : List (Str × Val)}, l.lookup f = some w → ∃ q ∈ l, q.1 = f := by
          intro l
          induction l with
          | nil => intro z; cases z
          | cons q l ih =>
            obtain ⟨g, u⟩ := q
            intro z
            rw [List.lookup_cons] at z
            cases q : f == g with
            | true => exact ⟨_, List.mem_cons_self, (eq_of_beq q).symm⟩
            | false =>
              rw [q] at z
              obtain ⟨q', h1, h2⟩ := ih z
              exact ⟨q', List.mem_cons_of_mem _ h1, h2⟩
        exact this e
      obtain ⟨q, hq, rfl⟩ := hm
      exact ⟨a, dx, c, xs, y, rfl, h2, h4.1, h4.2 q hq, h5, h6⟩
    · cases e
  · cases e
theorem isObj_of {K : PySem.W.Frag} {H : Hp} {L : List Addr} {h : MH} (r : HR K H L h) {v : Val} {x : V} {c m : Str} (hv : RV K H L v x) (e : isObj h v c m = true) :
    ∃ a dx xs, x = .ref a ∧ H a = some (.ins (He.ga K c) dx xs) ∧ xs.lookup m = none := by
  unfold isObj at e
  split at e
  · split at e
    · rename_i c' fs eh
      rw [Bool.and_eq_true] at e
      obtain rfl := of_decide_eq_true e.1
      obtain ⟨a, dx, xs, rfl, _, h2, h3, h4⟩ := obj_of r hv eh
      exact ⟨a, dx, xs, rfl, h2, h3.none_of (Option.isNone_iff_eq_none.mp e.2)⟩
    · cases e
  · cases e
theorem s_fld {X : Cx} {W : L2.St → XW} {fo : Option Scope} {sc : Scope} {nd : Nd} {a : E} {f : Str} (ok : XOk G N call fo sc X W)
    (iha : ∀ x, okE G N a fo sc (.e x) = true → SndE X W call a x) (h : okE G N (.fld a f) fo sc nd = true) : Snd X W call (.fld a f) nd := by
  unfold okE at h
  split at h
  all_goals first | contradiction | (cases h; done) | skip
  rename_i he
  cases he
  simp only [Bool.and_eq_true, decide_eq_true_eq] at h
  obtain ⟨⟨rfl, h1⟩, h2⟩ := h
  refine SndE.of _ rfl rfl (PE.imp (pe_fld (iha _ h2).pe (base_of h1)) fun σ H Q q => ?_)
  obtain ⟨ρ, hh, L, rs, hr, q⟩ := q
  refine ⟨ρ, hh, L, rs, hr, ?_⟩
  refine (outV.bind q).imp fun v h1 H1 L1 r1 x1 q1 => ?_
  intro z hz
  obtain ⟨w, e1, q2⟩ := q1.ofO r1
  obtain ⟨a', dx, c, xs, y, rfl, h2, h3, h4, h5, h6⟩ := fld_of r1 hz e1
  exact ⟨a', _, dx, xs, y, rfl, h2, h3, h4, h5, q2 y h6⟩
theorem s_mcl {X : Cx} {W : L2.St → XW} {fo : Option Scope} {sc : Scope} {nd : Nd} {k : Nat} {c m : Str} {o es : E} (ok : XOk G N call fo sc X W)
    (iho : ∀ x, okE G N o fo sc (.e x) = true → SndE X W call o x) (ihes : ∀ x, okE G N es fo sc (.es x) = true → SndL X W call es x) (h : okE G N (.mcl k c m o es) fo sc nd = true) : Snd X W call (.mcl k c m o es) nd := by
  unfold okE at h
  split at h
  all_goals first | contradiction | (cases h; done) | skip
  rename_i x n ap xs p he
  cases he
  simp only [Bool.and_eq_true, decide_eq_true_eq, Bool.not_eq_true', decide_eq_false_iff_not] at h
  obtain ⟨⟨⟨⟨⟨⟨⟨⟨rfl, h1⟩, h2⟩, h3⟩, h4⟩, h5⟩, h6⟩, h7⟩, h8⟩ := h
  obtain ⟨g1, nm, g2⟩ := mt_of h4
  obtain ⟨fa, fd, ps, kk, F, hr, hm, hk, hb, hl⟩ := ok.fns _ _ _ g2
  replace hr := hr.mono (Nat.le_add_right _ _)
  have hM : Meth X.K (He.ga X.K c) n fa := by
    unfold Role at hm
    rw [g1] at hm
    simp only [if_neg h6] at hm
    exact hm
  obtain ⟨pc, hpc, rfl⟩ := oc_of h5
  have hC := (ok.os.cl pc hpc).2
  have key : ∀ σ H Q, tV X.K W call (.mcl k pc.name n o es) σ H Q → tMethSo (He.ga X.K pc.name) n (spG X.K G call k (xs.length + 1)) (WE (wxOf X.K G W)) (tV X.K W call o) (tA X.K W call es) σ H Q := fun σ H Q q => by
    obtain ⟨ρ, hh, L, rs, hrr, q⟩ := q
    refine ⟨ρ, hh, L, rs, hrr, ?_⟩
    refine (outV.bind q).imp fun v h1' H1 L1 r1 x1 q1 => ?_
    intro z hz
    split at q1
    · rename_i cc
      obtain ⟨a, dx, ys, rfl, e1, e2⟩ := isObj_of r1 hz cc
      refine ⟨a, dx, ys, rfl, e1, e2, ρ, h1', L1, rs.mono x1, r1, ?_⟩
      refine (outV.bind q1).imp fun vs h2 H2 L2 r2 x2 q2 => ?_
      intro us hu
      have hlen : (v :: vs).length = xs.length + 1 := by
        by_cases cl : (v :: vs).length = xs.length + 1
        · exact cl
        · rw [ok.len _ _ _ (v :: vs) h2 g2 cl] at q2
          exact q2.elim
      have hz2 : RVs X.K H2 L2 (v :: vs) (.ref a :: us) := RVs.cons (RV.mono x2 _ _ hz) hu
      refine ⟨by rw [← hz2.length]; exact hlen, v :: vs, h2, L2, r2, hz2, ?_⟩
      cases e : call k (v :: vs) h2 with
      | no => rw [e] at q2; exact q2.elim
      | ok w h3 => rw [e] at q2; exact q2
      | ex cx as h3 => rw [e] at q2; exact fun H3 L3 r3 x3 cls d xr => ⟨cx, as, h3, L3, xr, r3, q2 H3 L3 r3 x3⟩
    · exact q1.elim
  refine SndE.of _ rfl rfl ?_
  cases xs with
  | nil =>
    have e := nil_of h8
    subst e
    refine PE.imp (pe_methSo0 (iho _ h7).pe hC hM F hr hb (fun σ => passAt ok.tk σ) (meth_tree (base_of h1) rfl h2)) fun σ H Q q => ?_
    obtain ⟨ρ, hh, L, rs, hr, q⟩ := key σ H Q q
    refine ⟨ρ, hh, L, rs, hr, ?_⟩
    refine q.imp fun v h1 H1 L1 r1 x1 q1 => ?_
    intro z hz
    obtain ⟨a, dx, fs, t1, t2, t3, t4⟩ := q1 z hz
    exact ⟨a, dx, fs, t1, t2, t3, tA_nil rfl t4⟩
  | cons y ys =>
    obtain ⟨k1, k2, k3⟩ := few_of (env := X.env) (pos := p) h3
    exact PE.imp (pe_methSo (iho _ h7).pe hC hM F hr hb (fun σ => passAt ok.tk σ) (ihes _ h8).pa (star_cons k1) (star_plain k2) (meth_tree (base_of h1) k3 h2)) key
theorem s_new {X : Cx} {W : L2.St → XW} {fo : Option Scope} {sc : Scope} {nd : Nd} {k : Nat} {c : Str} {es : E} (ok : XOk G N call fo sc X W)
    (ihes : ∀ x, okE G N es fo sc (.es x) = true → SndL X W call es x) (h : okE G N (.new k c es) fo sc nd = true) : Snd X W call (.new k c es) nd := by
  unfold okE at h
  split at h
  all_goals first | contradiction | (cases h; done) | skip
  rename_i x xp xs p he
  cases he
  simp only [Bool.and_eq_true, decide_eq_true_eq] at h
  obtain ⟨⟨⟨⟨⟨⟨rfl, h2⟩, h3⟩, h4⟩, h5⟩, h6⟩, h8⟩ := h
  have o1 := (odd_of h3).1
  obtain ⟨g1, nm, g2⟩ := mt_of h5
  obtain ⟨fa, fd, ps, kk, F, hr, hm, hk, hb, hl⟩ := ok.fns _ _ _ g2
  rw [twoG_of h6] at hr
  obtain ⟨pc, hpc, rfl⟩ := oc_of h6
  have hM : Mk X.K (He.ga X.K pc.name) fa := by
    unfold Role at hm
    rw [g1] at hm
    simp only [if_true] at hm
    exact hm
  obtain ⟨hG, hC⟩ := ok.os.cl pc hpc
  have key : ∀ σ H Q, tV X.K W call (.new k pc.name es) σ H Q → tMakeSo (He.ga X.K pc.name) (spG X.K G call k (xs.length + 1)) (WE (wxOf X.K G W)) (tA X.K W call es) σ H Q := fun σ H Q q => by
    obtain ⟨ρ, hh, L, rs, hrr, q⟩ := q
    refine ⟨ρ, hh, L, rs, hrr, ?_⟩
    refine (outV.bind q).imp fun vs h1' H1 L1 r1 x1 q1 => ?_
    intro us hu a dx ha hd ne
    have r2 : HR X.K (upd (upd H1 dx (.own a)) a (.ins (He.ga X.K pc.name) dx [])) (L1 ++ [a]) (h1' ++ [.obj pc.name []]) := r1.addI ha hd ne hC
    have x2 : Ext X.K H1 L1 (upd (upd H1 dx (.own a)) a (.ins (He.ga X.K pc.name) dx [])) (L1 ++ [a]) := Ext.addI ha hd ne
    have hz2 : RVs X.K (upd (upd H1 dx (.own a)) a (.ins (He.ga X.K pc.name) dx [])) (L1 ++ [a]) (.loc h1'.length :: vs) (.ref a :: us) := RVs.cons (RV.newLoc r1) (RVs.mono x2 _ _ hu)
    have hlen : (Val.loc h1'.length :: vs).length = xs.length + 1 := by
      by_cases cl : (Val.loc h1'.length :: vs).length = xs.length + 1
      · exact cl
      · rw [ok.len _ _ _ (Val.loc h1'.length :: vs) (h1' ++ [MO.obj pc.name []]) g2 cl] at q1
        exact q1.elim
    refine ⟨by rw [← hz2.length]; exact hlen, _, _, _, r2, hz2, ?_⟩
    cases e : call k (Val.loc h1'.length :: vs) (h1' ++ [MO.obj pc.name []]) with
    | no => rw [e] at q1; exact q1.elim
    | ok w h3 =>
      rw [e] at q1
      intro H3 L3 r3 x3 y hy
      have q2 : outV X.K (W σ) H1 L1 (if w.isNon then .ok (.loc h1'.length) h3 else .no) (fin1 X.K Q) := q1
      split at q2
      · rename_i en
        have : w = .non := by cases w <;> first | rfl | cases en
        subst this
        refine ⟨hy.non_of, ?_⟩
        exact q2 H3 L3 r3 (x2.trans x3) _ (RV.mono x3 _ _ (RV.newLoc r1))
      · exact q2.elim
    | ex cx as h3 => rw [e] at q1; exact fun H3 L3 r3 x3 cls d xr => ⟨cx, as, h3, L3, xr, r3, q1 H3 L3 r3 (x2.trans x3)⟩
  refine SndE.of _ rfl rfl ?_
  cases xs with
  | nil =>
    have e := nil_of h8
    subst e
    refine PE.imp (pe_makeSo0 hM F hr (sgl ok h2) hG hb (fun σ => passAt ok.tk σ) o1) fun σ H Q q => ?_
    exact tA_nil rfl (key σ H Q q)
  | cons y ys =>
    rw [List.all_cons, Bool.and_eq_true] at h4
    exact PE.imp (pe_makeSo hM F hr (sgl ok h2) hG hb (fun σ => passAt ok.tk σ) (ihes _ h8).pa o1 (star_cons h4.1) (star_plain h4.2)) key

def mtTy : MI → String
  | .append => "list"
  | .pop => "list"
  | .join => "str"
  | .split => "str"
  | .upper => "str"
  | .index => "str"
  | .lidx => "list"
  | .extend => "list"
theorem ty_of {K : PySem.W.Frag} {H : Hp} {L : List Addr} {h : MH} (r : HR K H L h) {m : MI} {v : Val} {x : V} (hv : RV K H L v x) (e : mtT m h v = true) : tyV K (mtTy m) x H := by
  unfold mtT at e
  split at e
  all_goals first | (cases e; done) | skip
  all_goals first
    | (obtain ⟨rfl, _⟩ := hv.str_of; rfl)
    | (cases eq : seqL h _ with
        | none => rw [eq] at e; cases e
        | some vs => obtain ⟨a, xs, rfl, _, hp, _⟩ := the_seq r hv eq; exact .inl ⟨rfl, xs, hp⟩)
theorem slot_m (m : MI) : PlainAttrs (mtTy m) ∧ Slot (mtTy m) (mtName m) (mtId m) ∧ typeOf (.builtin (mtId m)) = pure (.type "method_descriptor") := by
  cases m
  · exact ⟨PySem.F.plainAttrs_list, PySem.F.slot_list_append, PySem.F.type_list_append⟩
  · exact ⟨PySem.F.plainAttrs_list, PySem.F.slot_list_pop, PySem.F.type_list_pop⟩
  · exact ⟨PySem.F.plainAttrs_str, PySem.F.slot_str_join, PySem.F.type_str_join⟩
  · exact ⟨PySem.F.plainAttrs_str, PySem.F.slot_str_split, PySem.F.type_str_split⟩
  · exact ⟨PySem.F.plainAttrs_list, PySem.F.slot_list_extend, PySem.F.type_list_extend⟩
  · exact ⟨PySem.F.plainAttrs_str, PySem.F.slot_str_upper, PySem.F.type_str_upper⟩
  · exact ⟨PySem.F.plainAttrs_str, PySem.F.slot_str_index, PySem.F.type_str_index⟩
  · exact ⟨PySem.F.plainAttrs_list, PySem.F.slot_list_index, PySem.F.type_list_index⟩
theorem s_mth {X : Cx} {W : L2.St → XW} {fo : Option Scope} {sc : Scope} {nd : Nd} {m : MI} {o es : E} (ok : XOk G N call fo sc X W)
    (iho : ∀ x, okE G N o fo sc (.e x) = true → SndE X W call o x) (ihes : ∀ x, okE G N es fo sc (.es x) = true → SndL X W call es x) (h : okE G N (.mth m o es) fo sc nd = true) : Snd X W call (.mth m o es) nd := by
  obtain ⟨g1, g2, g3⟩ := slot_m m
  have rule : MtR X (mtId m) (rME X.K (mtV m)) := mtr_any fun W => mtr_mt m
  have key : ∀ σ H Q, tV X.K W call (.mth m o es) σ H Q → tBM X.K (mtTy m) (rME X.K (mtV m)) (tV X.K W call o) (tA X.K W call es) σ H Q := fun σ H Q q => by
    obtain ⟨ρ, hh, L, rs, hrr, q⟩ := q
    refine ⟨ρ, hh, L, rs, hrr, ?_⟩
    refine (outV.bind q).imp fun v h1 H1 L1 r1 x1 q1 => ?_
    intro z hz
    split at q1
    · rename_i c
      refine ⟨ty_of r1 hz c, ρ, h1, L1, rs.mono x1, r1, ?_⟩
      refine (outV.bind q1).imp fun vs h2 H2 L2 r2 x2 q2 => ?_
      intro us hu
      exact ⟨W σ, v, vs, h2, L2, r2, RV.mono x2 _ _ hz, hu, q2⟩
    · exact q1.elim
  unfold okE at h
  split at h
  all_goals first | contradiction | (cases h; done) | skip
  · rename_i he
    cases he
    simp only [Bool.and_eq_true, decide_eq_true_eq] at h
    obtain ⟨⟨⟨⟨rfl, h1⟩, h2⟩, h3⟩, h4⟩ := h
    have e := nil_of h4
    subst e
    refine SndE.of _ rfl rfl (PE.imp (pe_bm0 g1 g2 g3 rule (iho _ h3).pe (base_of h1) h2) fun σ H Q q => ?_)
    obtain ⟨ρ, hh, L, rs, hr, q⟩ := key σ H Q q
    refine ⟨ρ, hh, L, rs, hr, ?_⟩
    refine q.imp fun v h1 H1 L1 r1 x1 q1 => ?_
    intro z hz
    obtain ⟨t1, t2⟩ := q1 z hz
    exact ⟨t1, tA_nil rfl t2⟩
  · rename_i he
    cases he
    simp only [Bool.and_eq_true, decide_eq_true_eq] at h
    obtain ⟨⟨⟨⟨⟨rfl, h1⟩, h2⟩, h3⟩, h4⟩, h5⟩ := h
    rename_i x ap y ys p
    obtain ⟨k1, k2, k3⟩ := few_of (env := X.env) (pos := p) h3
    exact SndE.of _ rfl rfl (PE.imp (pe_bm g1 g2 g3 rule (iho _ h4).pe (ihes _ h5).pa (base_of h1) k3 h2 (star_cons k1) (star_plain k2)) key)
end
end Gu
end

section
set_option Elab.async false
set_option linter.all false
set_option maxRecDepth 100000
set_option maxHeartbeats 1000000
/-! Gu11: comprehensions; all expressions. -/
namespace Gu
open PySem PySem.Spec PyProof.Rows L2
section
variable {G : GT} {N : List Str} {call : CallT}
theorem XOk.blk {X : Cx} {fo : Option Scope} {sc : Scope} (ok : XOk G N call fo sc X W) (bs : Scope) (s : Shared) (H : Hp) (C : Addr) (cl : List (Str × Addr)) (fp : List Addr) :
    XOk G N call (some bs) (relS bs sc) (X.blk s H bs (compEnvC bs cl C X.env) fp) noW where
  names := ok.names
  nd := ok.nd
  calm := ok.calm
  sc := by rw [← ok.sc]; rfl
  fn := fun x h _ => h
  un := ok.un
  hp := PassesOwn.never
  unb := ok.unb
  glb := ok.glb
  len := ok.len
  tk := takes_noW
  dp := ok.dp
  xs := ok.xs
  os := ok.os
  fns := ok.fns
theorem lc_len {D : Nat} {t : NT} {ρ : Rho} {cnd : Rho → MH → R Bool} {elt : Rho → MH → R Val} {it : Items} {m i : Nat} {h : MH} :
    lcLoop D t ρ cnd elt it (m + 1) i h = (match it.get h i with
    | some x => match setN t x ρ with
      | some ρ' => match cnd ρ' h with
        | .ok true h0 => match elt ρ' h0 with
          | .ok y h1 => match h1[D]? with
            | some (.lst acc) => if acc.length < sizeLine then lcLoop D t ρ cnd elt it m (i + 1) (h1.set D (.lst (acc ++ [y]))) else .no
            | _ => .no
          | _ => .no
        | .ok false h0 => lcLoop D t ρ cnd elt it m (i + 1) h0
        | _ => .no
      | Option.none => .no
    | Option.none => .no) := rfl
theorem wipe_wipe {own : List Nat} : ∀ {vs : List Nat} {σ : L2.St}, (∀ v ∈ vs, v ∈ own) → L2.wipe (L2.wipe σ vs) own = L2.wipe σ own
  | [], _, _ => rfl
  | v :: vs, σ, h => by
    have e : L2.wipe σ (v :: vs) = (L2.wipe σ vs).set v none := rfl
    rw [e, wipe_in (h v List.mem_cons_self), wipe_wipe fun w hw => h w (List.mem_cons_of_mem _ hw)]
theorem own_snd (N : List Str) (own : List Nat) : (ownP N own).map (·.2) = own := by
  unfold ownP
  rw [List.map_map]
  show own.map (fun i => i) = own
  simp
theorem t_lc {K : PySem.W.Frag} {W : L2.St → XW} {own : List Nat} {t : NT} {it cond elt : E} (ht : ∀ i ∈ ntIs t, i ∈ own) {σ H Q} (q : tV K W call (.lc own t it cond elt) σ H Q) :
    tLc (tI K W call it) (gNT K t) (tT K noW call cond) (tV K noW call elt) own σ H Q := by
  obtain ⟨ρ, h, L, rs, hr, q⟩ := q
  refine ⟨ρ, h, L, rs, hr, ?_⟩
  refine (outV.bind q).imp fun its h1 H1 L1 r1 x1 q1 => ?_
  intro J hJ D hD
  have r2 := r1.add hD (RVs.nil (K := K) (H := H1) (L := L1))
  have x2 : Ext K H1 L1 (upd H1 D (.lst [])) (L1 ++ [D]) := Ext.add hD
  have rs2 : Slots K (upd H1 D (.lst [])) (L1 ++ [D]) (wipeR ρ own) (L2.wipe σ own) := ((rs.mono x1).mono x2).wipe own
  have eD : (L1 ++ [D])[h1.length]? = some D := by rw [← r1.len]; simp
  refine ⟨fun i m H => i + m = its.len ∧ ∃ h' L', HR K H L' h' ∧ Ext K (upd H1 D (.lst [])) (L1 ++ [D]) H L' ∧ outV K (W σ) H L' (lcLoop h1.length t (wipeR ρ own) (ev call cond).t (ev call elt).v its m i h') (fin1 K Q),
    ⟨its.len, by omega, _, _, r2, .refl, q1.from x2⟩, fun i m H3 hW => ?_⟩
  obtain ⟨em, h3, L3, r3, x3, q3⟩ := hW
  cases m with
  | zero =>
    have q3' : outV K (W σ) H3 L3 (if its.fin h3 then .ok (.loc h1.length) h3 else .no) (fin1 K Q) := q3
    split at q3'
    · rename_i c
      have ei : i = its.len := by omega
      subst ei
      refine .inl ⟨hJ.fin (x2.trans x3) r3 c, ?_⟩
      exact q3'.here r3 _ (.mk_loc (get_pre x3.pre eD))
    · exact q3'.elim
  | succ m =>
    rw [lc_len] at q3
    split at q3
    · rename_i x ex
      split at q3
      · rename_i ρ' eρ
        obtain ⟨g1, g2⟩ := hJ.get (x2.trans x3) r3 (by omega) ex
        refine .inr ⟨g1, fun H' => ∃ h' L', HR K H' L' h' ∧ Ext K (upd H1 D (.lst [])) (L1 ++ [D]) H' L' ∧ outV K (W σ) H' L' (lcLoop h1.length t (wipeR ρ own) (ev call cond).t (ev call elt).v its m (i + 1) h') (fin1 K Q),
          fun H' ⟨h', L', a, b, c⟩ => ⟨m, by omega, by omega, h', L', a, b, c⟩, fun y H4 hy => ?_⟩
        obtain ⟨r4, x4, hv⟩ := g2 y H4 hy
        have x04 := (x3.trans x4)
        refine g_set (rs2.mono x04) hv eρ fun σ' rs' hw => ⟨(hw own ht).trans (wipe_wipe fun _ h => h), ?_⟩
        have q4 := q3.from x4
        refine ⟨ρ', h3, L3, rs', r4, ?_⟩
        cases ec : (ev call cond).t ρ' h3 with
        | no => rw [ec] at q4; exact q4.elim
        | ex c as h' => rw [ec] at q4; exact q4.elim
        | ok b h0 =>
          rw [ec] at q4
          intro H5 L5 r5 x5
          cases b with
          | false =>
            exact ⟨h0, L5, r5, x04.trans x5, q4.from x5⟩
          | true =>
            have q5 := q4.from x5
            simp only at q5
            refine ⟨ρ', h0, L5, rs'.mono x5, r5, ?_⟩
            cases ee : (ev call elt).v ρ' h0 with
            | no => rw [ee] at q5; exact q5.elim
            | ex c as h' => rw [ee] at q5; exact q5.elim
            | ok w h6 =>
              rw [ee] at q5
              intro H6 L6 r6 x6 z hz
              have q6 := q5.from x6
              have eD6 : L6[h1.length]? = some D := get_pre ((x04.trans x5).trans x6).pre eD
              simp only at q6
              split at q6
              · rename_i acc ea
                split at q6
                · rename_i c
                  obtain ⟨xs, hp, hs⟩ := r6.at ea eD6
                  refine ⟨xs, hp, by rw [← hs.length]; exact c, _, L6, r6.write eD6 hp (hs.append (RVs.cons hz RVs.nil)), ((x04.trans x5).trans x6).trans (Ext.write hp), q6.from (Ext.write hp)⟩
                · exact q6.elim
              · exact q6.elim
      · exact q3.elim
    · exact q3.elim
theorem s_lc {X : Cx} {W : L2.St → XW} {fo : Option Scope} {sc : Scope} {nd : Nd} {own : List Nat} {t : NT} {it cond elt : E} (ok : XOk G N call fo sc X W)
    (ihit : ∀ x, okE G N it fo sc (.e x) = true → SndE X W call it x)
    (ihc : ∀ (X : Cx) (fo : Option Scope) (sc : Scope) xs, XOk G N call fo sc X noW → okE G N cond fo sc (.es xs) = true → SndL X noW call cond xs)
    (ihe : ∀ (X : Cx) (fo : Option Scope) (sc : Scope) x, XOk G N call fo sc X noW → okE G N elt fo sc (.e x) = true → SndE X noW call elt x)
    (h : okE G N (.lc own t it cond elt) fo sc nd = true) : Snd X W call (.lc own t it cond elt) nd := by
  unfold okE at h
  split at h
  all_goals first | contradiction | (cases h; done) | skip
  rename_i he
  cases he
  simp only [Bool.and_eq_true, decide_eq_true_eq, List.all_eq_true] at h
  obtain ⟨⟨⟨⟨⟨⟨⟨h1, h2⟩, h3⟩, h4⟩, h5⟩, h6⟩, h7⟩, h8⟩ := h
  rename_i elx tg y ifs bs pos
  refine SndE.of _ rfl rfl (PE.imp (pe_lc (own := ownP N own) (g := gNT X.K t) (tt := tT X.K noW call cond) (te := tV X.K noW call elt) ok.calm (by rw [ok.names]; exact ok.nd) ((ihit _ h5).pi tg (noSetT_2 h4))
    (by rw [ok.names, ok.sc]; exact blkOk_by h1) (fun s H C cl fp => pg_t (ok.blk bs s H C cl fp) h3) (fun s H C cl fp => (ihc _ _ _ _ (ok.blk bs s H C cl fp) h7).pts h6) (fun s H C cl fp => (ihe _ _ _ _ (ok.blk bs s H C cl fp) h8).pe) (set_of (noSetT_1 h4))) fun σ H Q q => ?_)
  rw [own_snd]
  exact t_lc h2 q
theorem cl_len {t : NT} {ρ : Rho} {cnd : Rho → MH → R Bool} {body : Rho → MH → R Unit} {it : Items} {m i : Nat} {h : MH} :
    clLoop t ρ cnd body it (m + 1) i h = (match it.get h i with
    | some x => match setN t x ρ with
      | some ρ' => match cnd ρ' h with
        | .ok true h0 => match body ρ' h0 with
          | .ok _ h1 => clLoop t ρ cnd body it m (i + 1) h1
          | _ => .no
        | .ok false h0 => clLoop t ρ cnd body it m (i + 1) h0
        | _ => .no
      | Option.none => .no
    | Option.none => .no) := rfl
/-- the turns of one for: whatever stands behind the tests -/
theorem cl_turns {K : PySem.W.Frag} {WX : XW} {own : List Nat} {t : NT} {its : Items} {J : It} {H1 H0 : Hp} {L1 L0 : List Addr} {n : Nat} {D : Addr} {ρ : Rho} {σ : L2.St} {cond rest : E} {te : TE} {cs : List Cl} {h0 : MH}
    (ht : ∀ i ∈ ntIs t, i ∈ own) (hJ : ItR K H1 L1 its J) (x1 : Ext K H1 L1 H0 L0) (r0 : HR K H0 L0 h0) (rs : Slots K H0 L0 (wipeR ρ own) (L2.wipe σ own)) (eD : L0[n]? = some D)
    (hrest : ∀ σ H Nx, tC K call rest n D σ H Nx → tIn te D cs σ H Nx) (Kn : MH → Hp → List Addr → Prop)
    (q : outV K WX H0 L0 (clLoop t (wipeR ρ own) (ev call cond).t ((ev call rest).c n) its its.len 0 h0) fun _ h' H' L' => Kn h' H' L') :
    ∃ W : Nat → Nat → Hp → Prop, (∃ m, W 0 m H0) ∧ ∀ i m H, W i m H →
      (J.stop i H ∧ ∃ h' L', HR K H L' h' ∧ Ext K H0 L0 H L' ∧ Kn h' H L') ∨ (J.go i H ∧ ∃ Nx : Hp → Prop, (∀ H', Nx H' → ∃ m', m' < m ∧ W (i + 1) m' H') ∧ ∀ x H', J.yld i H x H' → gNT K t x (L2.wipe σ own) H' fun σ2 H2 => L2.wipe σ2 own = L2.wipe σ own ∧ tT K noW call cond σ2 H2 fun b H3 =>
        if b = true then tIn te D cs σ2 H3 Nx else Nx H3) := by
  refine ⟨fun i m H => i + m = its.len ∧ ∃ h' L', HR K H L' h' ∧ Ext K H0 L0 H L' ∧ outV K WX H L' (clLoop t (wipeR ρ own) (ev call cond).t ((ev call rest).c n) its m i h') (fun _ h' H' L' => Kn h' H' L'),
    ⟨its.len, by omega, _, _, r0, .refl, q⟩, fun i m H3 hW => ?_⟩
  obtain ⟨em, h3, L3, r3, x3, q3⟩ := hW
  cases m with
  | zero =>
    have q3' : outV K WX H3 L3 (if its.fin h3 then .ok () h3 else .no) (fun _ h' H' L' => Kn h' H' L') := q3
    split at q3'
    · rename_i c
      have ei : i = its.len := by omega
      subst ei
      exact .inl ⟨hJ.fin (x1.trans x3) r3 c, h3, L3, r3, x3, q3'.here r3⟩
    · exact q3'.elim
  | succ m =>
    rw [cl_len] at q3
    split at q3
    · rename_i x ex
      split at q3
      · rename_i ρ' eρ
        obtain ⟨g1, g2⟩ := hJ.get (x1.trans x3) r3 (by omega) ex
        refine .inr ⟨g1, fun H' => ∃ h' L', HR K H' L' h' ∧ Ext K H0 L0 H' L' ∧ outV K WX H' L' (clLoop t (wipeR ρ own) (ev call cond).t ((ev call rest).c n) its m (i + 1) h') (fun _ h' H' L' => Kn h' H' L'),
          fun H' ⟨h', L', a, b, c⟩ => ⟨m, by omega, by omega, h', L', a, b, c⟩, fun y H4 hy => ?_⟩
        obtain ⟨r4, x4, hv⟩ := g2 y H4 hy
        have x04 := (x3.trans x4)
        refine g_set (rs.mono x04) hv eρ fun σ' rs' hw => ⟨(hw own ht).trans (wipe_wipe fun _ h => h), ?_⟩
        have q4 := q3.from x4
        refine ⟨ρ', h3, L3, rs', r4, ?_⟩
        cases ec : (ev call cond).t ρ' h3 with
        | no => rw [ec] at q4; exact q4.elim
        | ex c as h' => rw [ec] at q4; exact q4.elim
        | ok b h0' =>
          rw [ec] at q4
          intro H5 L5 r5 x5
          cases b with
          | false =>
            exact ⟨h0', L5, r5, x04.trans x5, q4.from x5⟩
          | true =>
            have q5 := q4.from x5
            simp only at q5
            refine hrest _ _ _ ⟨ρ', h0', L5, rs'.mono x5, r5, get_pre (x04.trans x5).pre eD, ?_⟩
            cases ee : (ev call rest).c n ρ' h0' with
            | no => rw [ee] at q5; exact q5.elim
            | ex c as h' => rw [ee] at q5; exact q5.elim
            | ok w h6 =>
              rw [ee] at q5
              intro H6 L6 r6 x6
              exact ⟨h6, L6, r6, (x04.trans x5).trans x6, q5.from x6⟩
      · exact q3.elim
    · exact q3.elim
theorem s_el {X : Cx} {W : L2.St → XW} {fo : Option Scope} {sc : Scope} {nd : Nd} {e : E} (ok : XOk G N call fo sc X W)
    (ihe : ∀ x, okE G N e fo sc (.e x) = true → SndE X noW call e x) (h : okE G N (.el e) fo sc nd = true) : Snd X W call (.el e) nd := by
  unfold okE at h
  split at h
  all_goals first | contradiction | (cases h; done) | skip
  rename_i he
  cases he
  rename_i x
  refine ⟨(ihe _ h).pe, fun gs k vs hd _ => .nil ?_, fun n D σ H Nx q => ?_⟩
  · have := congrArg List.head? hd
    rw [List.head?_drop] at this
    simpa using this
  · obtain ⟨ρ, hh, L, rs, hr, eD, q⟩ := q
    refine ⟨ρ, hh, L, rs, hr, ?_⟩
    refine (outV.bind q).imp fun v h1 H1 L1 r1 x1 q1 => ?_
    intro z hz
    unfold addL at q1
    split at q1
    · rename_i acc ea
      split at q1
      · rename_i c
        have eD1 := get_pre x1.pre eD
        obtain ⟨xs, hp, hs⟩ := r1.at ea eD1
        exact ⟨xs, hp, by rw [← hs.length]; exact c, (q1.from (Ext.write hp)).here (r1.write eD1 hp (hs.append (RVs.cons hz RVs.nil)))⟩
      · exact q1.elim
    · exact q1.elim
theorem s_cl {X : Cx} {W : L2.St → XW} {fo : Option Scope} {sc : Scope} {nd : Nd} {own : List Nat} {t : NT} {it cond rest : E} (ok : XOk G N call fo sc X W)
    (ihit : ∀ x, okE G N it fo sc (.e x) = true → SndE X noW call it x)
    (ihc : ∀ xs, okE G N cond fo sc (.es xs) = true → SndL X noW call cond xs)
    (ihr : ∀ x r, okE G N rest fo sc (.gs x r) = true → SndC X call rest x r)
    (h : okE G N (.cl own t it cond rest) fo sc nd = true) : Snd X W call (.cl own t it cond rest) nd := by
  unfold okE at h
  split at h
  all_goals first | contradiction | (cases h; done) | skip
  rename_i he
  cases he
  simp only [Bool.and_eq_true, decide_eq_true_eq, List.all_eq_true] at h
  obtain ⟨⟨⟨⟨⟨⟨⟨h2, h9⟩, h3⟩, h4⟩, h5⟩, h6⟩, h7⟩, h8⟩ := h
  rename_i x tg y ifs r
  obtain ⟨pe, hcs, hin⟩ := ihr _ _ h8
  refine ⟨pe, fun gs k vs hd hv => ?_, fun n D σ H Nx q => ?_⟩
  · have e1 : gs[k]? = some ⟨tg, y, ifs, 0⟩ := by
      have := congrArg List.head? hd
      rw [List.head?_drop] at this
      simpa using this
    have e2 : gs.drop (k + 1) = r := by rw [← List.drop_drop, hd]; rfl
    exact .cons e1 ((ihit _ h5).pi tg (noSetT_2 h4)) (pg_t ok h3) ((ihc _ h7).pts h6) (fun env => set_of (noSetT_1 h4)) hv (hcs gs (k + 1) own e2 h9)
  · obtain ⟨ρ, hh, L, rs, hr, eD, q⟩ := q
    refine ⟨ρ, hh, L, rs, hr, ?_⟩
    refine (outV.bind q).imp fun its h1 H1 L1 r1 x1 q1 => ?_
    intro J hJ
    obtain ⟨W', w0, turn⟩ := cl_turns (σ := σ) h2 hJ .refl r1 ((rs.mono x1).wipe own) (get_pre x1.pre eD) (fun σ H Nx => hin n D σ H Nx) (fun _ H' _ => Nx H') q1
    exact ⟨W', w0, fun i m H hw => (turn i m H hw).imp (fun ⟨a, _, _, _, _, b⟩ => ⟨a, b⟩) id⟩
theorem t_lcn {K : PySem.W.Frag} {W : L2.St → XW} {own : List Nat} {t : NT} {it cond rest : E} (h2 : ∀ i ∈ ntIs t, i ∈ own) (hin : ∀ n D σ H Nx, tC K call rest n D σ H Nx → tIn (teOf K call rest) D (clsOf K call rest) σ H Nx) {σ H Q} (q : tV K W call (.lcn own t it cond rest) σ H Q) :
    tLcN ⟨tI K W call it, gNT K t, tT K noW call cond, own⟩ (clsOf K call rest) (teOf K call rest) σ H Q := by
  obtain ⟨ρ, hh, L, rs, hr, q⟩ := q
  refine ⟨ρ, hh, L, rs, hr, ?_⟩
  refine (outV.bind q).imp fun its h1 H1 L1 r1 x1 q1 => ?_
  intro J hJ D hD
  have r2 := r1.add hD (RVs.nil (K := K) (H := H1) (L := L1))
  have x2 : Ext K H1 L1 (upd H1 D (.lst [])) (L1 ++ [D]) := Ext.add hD
  have eD : (L1 ++ [D])[h1.length]? = some D := by rw [← r1.len]; simp
  obtain ⟨W', w0, turn⟩ := cl_turns (σ := σ) (cond := cond) h2 hJ x2 r2 (((rs.mono x1).mono x2).wipe own) eD (fun σ H Nx => hin _ D σ H Nx) (fun h' H' L' => outV K (W σ) H' L' (.ok (.loc h1.length) h') (fin1 K Q)) (outV.bind (q1.from x2))
  refine ⟨W', w0, fun i m H hw => (turn i m H hw).imp (fun ⟨a, h', L', r', x', b⟩ => ⟨a, ?_⟩) id⟩
  exact b.here r' _ (.mk_loc (get_pre x'.pre eD))
theorem s_lcn {X : Cx} {W : L2.St → XW} {fo : Option Scope} {sc : Scope} {nd : Nd} {own : List Nat} {t : NT} {it cond rest : E} (ok : XOk G N call fo sc X W)
    (ihit : ∀ x, okE G N it fo sc (.e x) = true → SndE X W call it x)
    (ihc : ∀ (X : Cx) (fo : Option Scope) (sc : Scope) xs, XOk G N call fo sc X noW → okE G N cond fo sc (.es xs) = true → SndL X noW call cond xs)
    (ihr : ∀ (X : Cx) (fo : Option Scope) (sc : Scope) x r, XOk G N call fo sc X noW → okE G N rest fo sc (.gs x r) = true → SndC X call rest x r)
    (h : okE G N (.lcn own t it cond rest) fo sc nd = true) : Snd X W call (.lcn own t it cond rest) nd := by
  unfold okE at h
  split at h
  all_goals first | contradiction | (cases h; done) | skip
  rename_i he
  cases he
  simp only [Bool.and_eq_true, decide_eq_true_eq, List.all_eq_true] at h
  obtain ⟨⟨⟨⟨⟨⟨⟨⟨h1, h2⟩, h9⟩, h3⟩, h4⟩, h5⟩, h6⟩, h7⟩, h8⟩ := h
  rename_i elx tg y ifs r bs pos
  refine SndE.of _ rfl rfl (PE.imp (pe_lcN (own := ownP N own) (g := gNT X.K t) (tt := tT X.K noW call cond) (cs := clsOf X.K call rest) (te := teOf X.K call rest) ok.calm (by rw [ok.names]; exact ok.nd) ((ihit _ h5).pi tg (noSetT_2 h4))
    (by rw [ok.names, ok.sc]; exact blkOk_by h1) (fun s H C cl fp => pg_t (ok.blk bs s H C cl fp) h3) (fun s H C cl fp => (ihc _ _ _ _ (ok.blk bs s H C cl fp) h7).pts h6)
    (fun s H C cl fp => (ihr _ _ _ _ _ (ok.blk bs s H C cl fp) h8).2.1 _ 1 _ rfl (by rw [own_snd]; exact h9)) (fun s H C cl fp => (ihr _ _ _ _ _ (ok.blk bs s H C cl fp) h8).1) (set_of (noSetT_1 h4))) fun σ H Q q => ?_)
  rw [own_snd]
  have hin : ∀ n D σ H Nx, tC X.K call rest n D σ H Nx → tIn (teOf X.K call rest) D (clsOf X.K call rest) σ H Nx := (ihr _ _ _ _ _ (ok.blk bs ⟨X.base, #[], ⟨0, 0, 0, 0⟩, 0, default⟩ (fun _ => none) 0 [] []) h8).2.2
  exact t_lcn h2 hin q
theorem dc_len {D : Nat} {t : NT} {ρ : Rho} {cnd : Rho → MH → R Bool} {kx vx : Rho → MH → R Val} {it : Items} {m i : Nat} {h : MH} :
    dcLoop D t ρ cnd kx vx it (m + 1) i h = (match it.get h i with
    | some x => match setN t x ρ with
      | some ρ' => match cnd ρ' h with
        | .ok true h0 => match kx ρ' h0 with
          | .ok k h1 => match vx ρ' h1 with
            | .ok v h2 => match dputV (.loc D) k v h2 with
              | .ok _ h3 => dcLoop D t ρ cnd kx vx it m (i + 1) h3
              | _ => .no
            | _ => .no
          | _ => .no
        | .ok false h0 => dcLoop D t ρ cnd kx vx it m (i + 1) h0
        | _ => .no
      | Option.none => .no
    | Option.none => .no) := rfl
theorem t_dc {K : PySem.W.Frag} {W : L2.St → XW} {own : List Nat} {t : NT} {it cond kx vx : E} (ht : ∀ i ∈ ntIs t, i ∈ own) {σ H Q} (q : tV K W call (.dc own t it cond kx vx) σ H Q) :
    tDc (tI K W call it) (gNT K t) (tT K noW call cond) (tV K noW call kx) (tV K noW call vx) own σ H Q := by
  obtain ⟨ρ, h, L, rs, hr, q⟩ := q
  refine ⟨ρ, h, L, rs, hr, ?_⟩
  refine (outV.bind q).imp fun its h1 H1 L1 r1 x1 q1 => ?_
  intro J hJ D hD
  have r2 := r1.addD (K := K) hD
  have x2 : Ext K H1 L1 (upd H1 D (.dK [])) (L1 ++ [D]) := Ext.add hD
  have rs2 : Slots K (upd H1 D (.dK [])) (L1 ++ [D]) (wipeR ρ own) (L2.wipe σ own) := ((rs.mono x1).mono x2).wipe own
  have eD : (L1 ++ [D])[h1.length]? = some D := by rw [← r1.len]; simp
  refine ⟨fun i m H => i + m = its.len ∧ ∃ h' L', HR K H L' h' ∧ Ext K (upd H1 D (.dK [])) (L1 ++ [D]) H L' ∧ outV K (W σ) H L' (dcLoop h1.length t (wipeR ρ own) (ev call cond).t (ev call kx).v (ev call vx).v its m i h') (fin1 K Q),
    ⟨its.len, by omega, _, _, r2, .refl, q1.from x2⟩, fun i m H3 hW => ?_⟩
  obtain ⟨em, h3, L3, r3, x3, q3⟩ := hW
  cases m with
  | zero =>
    have q3' : outV K (W σ) H3 L3 (if its.fin h3 then .ok (.loc h1.length) h3 else .no) (fin1 K Q) := q3
    split at q3'
    · rename_i c
      have ei : i = its.len := by omega
      subst ei
      refine .inl ⟨hJ.fin (x2.trans x3) r3 c, ?_⟩
      exact q3'.here r3 _ (.mk_loc (get_pre x3.pre eD))
    · exact q3'.elim
  | succ m =>
    rw [dc_len] at q3
    split at q3
    · rename_i x ex
      split at q3
      · rename_i ρ' eρ
        obtain ⟨g1, g2⟩ := hJ.get (x2.trans x3) r3 (by omega) ex
        refine .inr ⟨g1, fun H' => ∃ h' L', HR K H' L' h' ∧ Ext K (upd H1 D (.dK [])) (L1 ++ [D]) H' L' ∧ outV K (W σ) H' L' (dcLoop h1.length t (wipeR ρ own) (ev call cond).t (ev call kx).v (ev call vx).v its m (i + 1) h') (fin1 K Q),
          fun H' ⟨h', L', a, b, c⟩ => ⟨m, by omega, by omega, h', L', a, b, c⟩, fun y H4 hy => ?_⟩
        obtain ⟨r4, x4, hv⟩ := g2 y H4 hy
        have x04 := (x3.trans x4)
        refine g_set (rs2.mono x04) hv eρ fun σ' rs' hw => ⟨(hw own ht).trans (wipe_wipe fun _ h => h), ?_⟩
        have q4 := q3.from x4
        refine ⟨ρ', h3, L3, rs', r4, ?_⟩
        cases ec : (ev call cond).t ρ' h3 with
        | no => rw [ec] at q4; exact q4.elim
        | ex c as h' => rw [ec] at q4; exact q4.elim
        | ok b h0 =>
          rw [ec] at q4
          intro H5 L5 r5 x5
          cases b with
          | false =>
            exact ⟨h0, L5, r5, x04.trans x5, q4.from x5⟩
          | true =>
            have q5 := q4.from x5
            simp only at q5
            refine ⟨ρ', h0, L5, rs'.mono x5, r5, ?_⟩
            cases ek : (ev call kx).v ρ' h0 with
            | no => rw [ek] at q5; exact q5.elim
            | ex c as h' => rw [ek] at q5; exact q5.elim
            | ok w h6 =>
              rw [ek] at q5
              intro H6 L6 r6 x6 zk hzk
              have q6 := q5.from x6
              simp only at q6
              refine ⟨ρ', h6, L6, (rs'.mono x5).mono x6, r6, ?_⟩
              cases ee : (ev call vx).v ρ' h6 with
              | no => rw [ee] at q6; exact q6.elim
              | ex c as h' => rw [ee] at q6; exact q6.elim
              | ok w2 h7 =>
                rw [ee] at q6
                intro H7 L7 r7 x7 z hz
                have q7 := q6.from x7
                have x07 := ((x04.trans x5).trans x6).trans x7
                have eD7 : L7[h1.length]? = some D := get_pre x07.pre eD
                simp only at q7
                cases ep : dputV (.loc h1.length) w w2 h7 with
                | no => rw [ep] at q7; exact q7.elim
                | ex c as h' => rw [ep] at q7; exact q7.elim
                | ok u h8 =>
                  rw [ep] at q7
                  obtain ⟨n, a, kvs, k, _, e2, e3, e4, e5, _, r8, x8⟩ := put_at r7 (.mk_loc eD7) (RV.mono x7 _ _ hzk) hz ep
                  cases e2
                  exact ⟨kvs, k, e3, e4, e5, h8, L7, r8, x07.trans x8, q7.from x8⟩
      · exact q3.elim
    · exact q3.elim
theorem s_dc {X : Cx} {W : L2.St → XW} {fo : Option Scope} {sc : Scope} {nd : Nd} {own : List Nat} {t : NT} {it cond kx vx : E} (ok : XOk G N call fo sc X W)
    (ihit : ∀ x, okE G N it fo sc (.e x) = true → SndE X W call it x)
    (ihc : ∀ (X : Cx) (fo : Option Scope) (sc : Scope) xs, XOk G N call fo sc X noW → okE G N cond fo sc (.es xs) = true → SndL X noW call cond xs)
    (ihk : ∀ (X : Cx) (fo : Option Scope) (sc : Scope) x, XOk G N call fo sc X noW → okE G N kx fo sc (.e x) = true → SndE X noW call kx x)
    (ihv : ∀ (X : Cx) (fo : Option Scope) (sc : Scope) x, XOk G N call fo sc X noW → okE G N vx fo sc (.e x) = true → SndE X noW call vx x)
    (h : okE G N (.dc own t it cond kx vx) fo sc nd = true) : Snd X W call (.dc own t it cond kx vx) nd := by
  unfold okE at h
  split at h
  all_goals first | contradiction | (cases h; done) | skip
  rename_i he
  cases he
  simp only [Bool.and_eq_true, decide_eq_true_eq, List.all_eq_true] at h
  obtain ⟨⟨⟨⟨⟨⟨⟨⟨h1, h2⟩, h3⟩, h4⟩, h5⟩, h6⟩, h7⟩, h8⟩, h9⟩ := h
  rename_i ke ve tg y ifs bs pos
  refine SndE.of _ rfl rfl (PE.imp (pe_dc (own := ownP N own) (g := gNT X.K t) (tt := tT X.K noW call cond) (tk := tV X.K noW call kx) (tv := tV X.K noW call vx) ok.calm (by rw [ok.names]; exact ok.nd) ((ihit _ h5).pi tg (noSetT_2 h4))
    (by rw [ok.names, ok.sc]; exact blkOk_by h1) (fun s H C cl fp => pg_t (ok.blk bs s H C cl fp) h3) (fun s H C cl fp => (ihc _ _ _ _ (ok.blk bs s H C cl fp) h7).pts h6) (fun s H C cl fp => (ihk _ _ _ _ (ok.blk bs s H C cl fp) h8).pe) (fun s H C cl fp => (ihv _ _ _ _ (ok.blk bs s H C cl fp) h9).pe) (set_of (noSetT_1 h4))) fun σ H Q q => ?_)
  rw [own_snd]
  exact t_dc h2 q
/-- which answers are taken for a slice's part -/
theorem den_o : ∀ (e : E), (∃ f, ev call e = Den.ofV f) ∨ (ev call e).o = (fun ρ h => ((ev call e).v ρ h).bind fun x h1 => match x with | .int k => .ok (some k) h1 | _ => .no) ∨ (∀ ρ h, (ev call e).o ρ h = .no) ∨ e = .nil := by
  intro e
  cases e <;> first | exact .inr (.inr (.inr rfl)) | exact .inl ⟨_, rfl⟩ | exact .inr (.inl rfl) | exact .inr (.inr (.inl fun _ _ => rfl))
theorem part_of {X : Cx} {W : L2.St → XW} {fo : Option Scope} {sc : Scope} {e : E} {x : Option Expr} (ih : ∀ nd, XOk G N call fo sc X W → okE G N e fo sc nd = true → Snd X W call e nd) (ok : XOk G N call fo sc X W)
    (h : okE G N e fo sc (match x with | none => .o none | some z => .e z) = true) : PO X x (tO X.K W call e) := by
  cases x with
  | none => exact ih (.o none) ok h
  | some z =>
    have s : SndE X W call e z := ih (.e z) ok h
    rcases den_o (call := call) e with ⟨f, hf⟩ | ho | ho | rfl
    · exact s.po (by rw [hf]; rfl)
    · exact s.po ho
    · refine ⟨fun pins s' σ H Q I q => ?_⟩
      obtain ⟨ρ, hh, L, rs, hr, q⟩ := q
      rw [ho] at q
      exact q.elim
    · unfold okE at h
      cases h
/-- every expression that passes the look is sound -/
theorem snd : ∀ (e : E) (X : Cx) (W : L2.St → XW) (fo : Option Scope) (sc : Scope) (nd : Nd), XOk G N call fo sc X W → okE G N e fo sc nd = true → Snd X W call e nd := by
  intro e
  induction e with
  | nil => intro X W fo sc nd ok h; exact s_nil ok h
  | cons e es ih1 ih2 => intro X W fo sc nd ok h; exact s_cons ok (fun x => ih1 X W fo sc (.e x) ok) (fun x => ih2 X W fo sc (.es x) ok) h
  | var i => intro X W fo sc nd ok h; exact s_var ok h
  | cst v => intro X W fo sc nd ok h; exact s_cst ok h
  | glb x v => intro X W fo sc nd ok h; exact s_glb ok h
  | bin o a b ih1 ih2 => intro X W fo sc nd ok h; exact s_bin ok (fun x => ih1 X W fo sc (.e x) ok) (fun x => ih2 X W fo sc (.e x) ok) h
  | neg a ih1 => intro X W fo sc nd ok h; exact s_neg ok (fun x => ih1 X W fo sc (.e x) ok) h
  | cmp o a b ih1 ih2 => intro X W fo sc nd ok h; exact s_cmp ok (fun x => ih1 X W fo sc (.e x) ok) (fun x => ih2 X W fo sc (.e x) ok) h
  | and_ a b ih1 ih2 => intro X W fo sc nd ok h; exact s_and ok (fun x => ih1 X W fo sc (.e x) ok) (fun x => ih2 X W fo sc (.e x) ok) h
  | or_ a b ih1 ih2 => intro X W fo sc nd ok h; exact s_or ok (fun x => ih1 X W fo sc (.e x) ok) (fun x => ih2 X W fo sc (.e x) ok) h
  | not_ a ih1 => intro X W fo sc nd ok h; exact s_not ok (fun x => ih1 X W fo sc (.e x) ok) h
  | ite c a b ih0 ih1 ih2 => intro X W fo sc nd ok h; exact s_ite ok (fun x => ih0 X W fo sc (.e x) ok) (fun x => ih1 X W fo sc (.e x) ok) (fun x => ih2 X W fo sc (.e x) ok) h
  | tup es ih1 => intro X W fo sc nd ok h; exact s_tup ok (fun x => ih1 X W fo sc (.es x) ok) h
  | lst es ih1 => intro X W fo sc nd ok h; exact s_lst ok (fun x => ih1 X W fo sc (.es x) ok) h
  | idx a b ih1 ih2 => intro X W fo sc nd ok h; exact s_idx ok (fun x => ih1 X W fo sc (.e x) ok) (fun x => ih2 X W fo sc (.e x) ok) h
  | slc a lo hi ih0 ih1 ih2 => intro X W fo sc nd ok h; exact s_slc ok (fun x => ih0 X W fo sc (.e x) ok) (fun x => part_of (ih1 X W fo sc) ok) (fun x => part_of (ih2 X W fo sc) ok) h
  | mxd a b ih1 ih2 => intro X W fo sc nd ok h; exact s_mxd ok (fun x => ih1 X W fo sc (.e x) ok) (fun x => ih2 X W fo sc (.e x) ok) h
  | rev a ih1 => intro X W fo sc nd ok h; exact s_rev ok (fun x => ih1 X W fo sc (.e x) ok) h
  | stp a b ih1 ih2 => intro X W fo sc nd ok h; exact s_stp ok (fun x => ih1 X W fo sc (.e x) ok) (fun x => ih2 X W fo sc (.e x) ok) h
  | call f es ih1 => intro X W fo sc nd ok h; exact s_call ok (fun x => ih1 X W fo sc (.es x) ok) h
  | blt b es ih1 => intro X W fo sc nd ok h; exact s_blt ok (fun x => ih1 X W fo sc (.es x) ok) h
  | isi t a ih1 => intro X W fo sc nd ok h; exact s_isi ok (fun x => ih1 X W fo sc (.e x) ok) h
  | mth m o es ih1 ih2 => intro X W fo sc nd ok h; exact s_mth ok (fun x => ih1 X W fo sc (.e x) ok) (fun x => ih2 X W fo sc (.es x) ok) h
  | rng1 a ih1 => intro X W fo sc nd ok h; exact s_rng1 ok (fun x => ih1 X W fo sc (.e x) ok) h
  | rng2 a b ih1 ih2 => intro X W fo sc nd ok h; exact s_rng2 ok (fun x => ih1 X W fo sc (.e x) ok) (fun x => ih2 X W fo sc (.e x) ok) h
  | lc own t it cond elt ih1 ih2 ih3 => intro X W fo sc nd ok h; exact s_lc ok (fun x => ih1 X W fo sc (.e x) ok) (fun X fo sc xs ok => ih2 X noW fo sc (.es xs) ok) (fun X fo sc x ok => ih3 X noW fo sc (.e x) ok) h
  | lcn own t it cond rest ih1 ih2 ih3 => intro X W fo sc nd ok h; exact s_lcn ok (fun x => ih1 X W fo sc (.e x) ok) (fun X fo sc xs ok => ih2 X noW fo sc (.es xs) ok) (fun X fo sc x r ok => ih3 X noW fo sc (.gs x r) ok) h
  | cl own t it cond rest ih1 ih2 ih3 => intro X W fo sc nd ok h; exact s_cl ok (fun x => ih1 X noW fo sc (.e x) ok.no) (fun xs => ih2 X noW fo sc (.es xs) ok.no) (fun x r => ih3 X noW fo sc (.gs x r) ok.no) h
  | dnew => intro X W fo sc nd ok h; exact s_dnew h
  | dget a b ih1 ih2 => intro X W fo sc nd ok h; exact s_dget ok (fun x => ih1 X W fo sc (.e x) ok) (fun x => ih2 X W fo sc (.e x) ok) h
  | din ng a b ih1 ih2 => intro X W fo sc nd ok h; exact s_din ok (fun x => ih1 X W fo sc (.e x) ok) (fun x => ih2 X W fo sc (.e x) ok) h
  | dgt a b c ih1 ih2 ih3 => intro X W fo sc nd ok h; exact s_dgt ok (fun x => ih1 X W fo sc (.e x) ok) (fun x => ih2 X W fo sc (.e x) ok) (fun x => ih3 X W fo sc (.e x) ok) h
  | deq ng a b ih1 ih2 => intro X W fo sc nd ok h; exact s_deq ok (fun x => ih1 X W fo sc (.e x) ok) (fun x => ih2 X W fo sc (.e x) ok) h
  | dc own t it cond kx vx ih1 ih2 ih3 ih4 => intro X W fo sc nd ok h; exact s_dc ok (fun x => ih1 X W fo sc (.e x) ok) (fun X fo sc xs ok => ih2 X noW fo sc (.es xs) ok) (fun X fo sc x ok => ih3 X noW fo sc (.e x) ok) (fun X fo sc x ok => ih4 X noW fo sc (.e x) ok) h
  | enm a ih1 => intro X W fo sc nd ok h; exact s_enm ok (fun x => ih1 X W fo sc (.e x) ok) h
  | lrg a b ih1 ih2 => intro X W fo sc nd ok h; exact s_lrg ok (fun x => ih1 X W fo sc (.e x) ok) (fun x => ih2 X W fo sc (.e x) ok) h
  | d1 a b ih1 ih2 => intro X W fo sc nd ok h; exact s_d1 (fun x => ih1 X W fo sc (.e x) ok) (fun x => ih2 X W fo sc (.e x) ok) h
  | chn o p a b c ih1 ih2 ih3 => intro X W fo sc nd ok h; exact s_chn ok (fun x => ih1 X W fo sc (.e x) ok) (fun x => ih2 X W fo sc (.e x) ok) (fun x => ih3 X W fo sc (.e x) ok) h
  | fld a f ih1 => intro X W fo sc nd ok h; exact s_fld ok (fun x => ih1 X W fo sc (.e x) ok) h
  | mcl k c m o es ih1 ih2 => intro X W fo sc nd ok h; exact s_mcl ok (fun x => ih1 X W fo sc (.e x) ok) (fun x => ih2 X W fo sc (.es x) ok) h
  | new k c es ih1 => intro X W fo sc nd ok h; exact s_new ok (fun x => ih1 X W fo sc (.es x) ok) h
  | el e ih1 => intro X W fo sc nd ok h; exact s_el ok (fun x => ih1 X noW fo sc (.e x) ok.no) h
end
end Gu
end

section
set_option Elab.async false
set_option linter.all false
set_option maxRecDepth 100000
set_option maxHeartbeats 1000000
/-! Gx4: except suites. -/
namespace Gu
open PySem PySem.Spec PyProof.Rows L2
/-- the classes that an except clause for x takes -/
def csOf (G : GT) (x : Str) : List Nat := (List.range G.xcs.length).filter fun i => match G.xcs[i]? with | some p => p.anc.contains x | none => false
def isCls (G : GT) (x : Str) : Bool := G.xcs.any fun q => q.name == x
def okEhL (sc : Scope) (nm : Str) (fl : Str) : EhL → Expr → Bool
  | .cst v, .Constant c _ _ => okC v c
  | .fld, .Attribute (.Name x _) f _ => decide (x = nm) && decide (f = fl)
  | _, _ => false
def okEhLs (sc : Scope) (nm : Str) (fl : Str) : List EhL → List Expr → Bool
  | [], [] => true
  | l :: r, e :: es => okEhL sc nm fl l e && noStar e && okEhLs sc nm fl r es
  | _, _ => false
def okEhV (sc : Scope) (nm : Str) (fl : Str) : EhV → Expr → Bool
  | .leaf l, e => okEhL sc nm fl l e
  | .tup ls, .Tuple es _ _ => okEhLs sc nm fl ls es
  | .lst ls, .List es _ => okEhLs sc nm fl ls es
  | _, _ => false
def okEhT (G : GT) (sc : Scope) (nm : Str) (fl : Str) : EhT → Expr → Bool
  | .isi cs, .Call (.Name f _) [.Name x _, .Name y _] [] _ => decide (f = "isinstance") && decide (x = nm) && decide (cs = csOf G y) && glB sc f && glB sc y && !oddN y && (isCls G y || (decide (y = "ValueError") && decide (csOf G y = List.range G.xcs.length)))
  | .feq i, .Compare (.Attribute (.Name x _) f _) [.Eq] [.UnaryOp .USub (.Constant (.int j) _ _) _] _ => decide (x = nm) && decide (f = fl) && decide (i = -j)
  | .not_ a, .UnaryOp .Not e _ => okEhT G sc nm fl a e
  | .and_ a b, .BoolOp .And (x :: y :: r) p => okEhT G sc nm fl a x && okEhT G sc nm fl b (match r with | [] => y | _ => .BoolOp .And (y :: r) p)
  | .or_ a b, .BoolOp .Or (x :: y :: r) p => okEhT G sc nm fl a x && okEhT G sc nm fl b (match r with | [] => y | _ => .BoolOp .Or (y :: r) p)
  | _, _ => false
def okEhS (G : GT) (sc : Scope) (nm : Str) (fl : Str) : EhS → List Stmt → Bool
  | .nil, [] => true
  | .nil, [.Pass _] => true
  | .ret v, [.Return (some e) _] => okEhV sc nm fl v e
  | .ite t a r, (.If c xs [] _) :: rest => okEhT G sc nm fl t c && okEhS G sc nm fl a xs && okEhS G sc nm fl r rest
  | _, _ => false
section
variable {G : GT} {N : List Str} {call : CallT} {X : Cx} {W : L2.St → XW} {sc : Scope} {a : Addr} {oe : Obj} {cls : Value} {d : Option Addr} {pn : List (Addr × Obj)} {c : Nat} {p : XC} {as : List Val} {i : Nat} {nm : Str}
/-- the exception as the suite holds it -/
structure InH (X : Cx) (G : GT) (a : Addr) (oe : Obj) (cls : Value) (d : Option Addr) (p : XC) : Prop where
  hz : Zc cls d oe
  hf : ∃ vs, oe.data = .fields vs
  hp : p ∈ G.xcs
  hc : cls = .ref (p.at_ X.K)
/-- the slots and the heap within it -/
structure InS (K : PySem.W.Frag) (p : XC) (d : Option Addr) (as : List Val) (i : Nat) (a : Addr) (σ : L2.St) (H : Hp) : Prop where
  at_ : σ[i]? = some (some (.ref a))
  xr : (p.kind = 1 ∧ d = none ∧ as = []) ∨ (p.kind = 2 ∧ ∃ dd v x, d = some dd ∧ as = [v] ∧ v.atom = true ∧ H dd = some (.xd [(p.fld, x)]) ∧ ∀ H L, RV K H L v x)
theorem sglS (ok : XOk G N call none sc X W) {x : Str} (h : glB sc x = true) {pn : List (Addr × Obj)} : Gl (X.suite a pn) x := sgl ok h
theorem pv_exc (ok : XOk G N call none sc X W) (hi : N[i]? = some nm) (hv : visB sc nm = true) (ho : (!oddN nm) = true) {pos : Pos} {pn : List (Addr × Obj)} : PE (X.suite a pn) (.Name nm pos) (fun σ H Q => σ[i]? = some (some (.ref a)) ∧ Q (.ref a) H) := by
  obtain ⟨o1, o2, _⟩ := odd_of ho
  exact PE.imp (pe_var (X := X.suite a pn) (i := i) (by show X.N[i]? = _; rw [ok.names]; exact hi) (svis ok hv) o1 o2) fun σ H Q q => ⟨_, q.1, q.2⟩
theorem call_isX (ok : XOk G N call none sc X W) (e : InH X G a oe cls d p) : CallR (X.suite a ((a, oe) :: pn)) (.builtin "isinstance")
    (fun xs H Q => ∃ (y : V) (cv : Value) (b : Bool) (σ : L2.St), xs = [.ref a, y] ∧ (∀ u, RelV y u → u = cv) ∧ PySem.W.kitOne X.K (.ref (p.at_ X.K)) cv = some b ∧ InS X.K p d as i a σ H ∧ Q (.bl b) H) := by
  intro pins s σ H xs us Q I r h
  obtain ⟨y, cv, b, σ0, rfl, hcv, hk, hs, q⟩ := h
  cases r with
  | cons rx rr =>
    cases rr with
    | cons rt rr =>
      cases rr
      cases rx
      have ec := hcv _ rt
      subst ec
      obtain ⟨hget, _⟩ := I.pin (a, oe) (List.mem_append.mpr (.inl List.mem_cons_self))
      obtain ⟨vs, hv⟩ := e.hf
      have hc := e.hz.1.trans e.hc
      have hd := e.hz.2
      have nc : PySem.W.notCls oe = true := by unfold PySem.W.notCls; rw [hv] <;> rfl
      have fin : ∀ od, PySem.W.InstAt s.heap a oe (p.at_ X.K) od → wpAny (model (X.suite a ((a, oe) :: pn)).prog (X.suite a ((a, oe) :: pn)).w) (X.suite a ((a, oe) :: pn)).A (PySem.call (.builtin "isinstance") [.ref a, _]) (EP (X.suite a ((a, oe) :: pn)) pins σ Q) (X.suite a ((a, oe) :: pn)).xe s := fun od J =>
        PySem.W.kia_one (ok.xs.isC p e.hp a od) I.kIn ⟨oe, J⟩ hk (fun z => nomatch z) fun tk => ⟨.bl b, H, I.kept (t' := tk) fun _ _ z => z, rfl, q⟩
      rcases hs.xr with ⟨_, e1, _⟩ | ⟨_, dd, v, x, e1, _, _, e3, _⟩
      · exact fin none ⟨hget, hc, nc, by rw [hd, e1]; trivial⟩
      · have hx : ObjOk X.prog X.w H s.heap dd (.xd [(p.fld, x)]) := I.hok dd _ e3
        obtain ⟨mA, hns, hr⟩ := hx
        obtain ⟨od, ho, hl⟩ := lookIn_ns hns
        exact fin (some od) ⟨hget, hc, nc, by rw [hd, e1]; exact ho⟩

theorem eh_l (ok : XOk G N call none sc X W) (e : InH X G a oe cls d p) (hi : N[i]? = some nm) (hv : visB sc nm = true) (ho : (!oddN nm) = true) {l : EhL} {x : Expr} {v : Val} (h : okEhL sc nm p.fld l x = true) (ev : evEhL as l = some v) :
    PE (X.suite a ((a, oe) :: pn)) x (fun σ H Q => InS X.K p d as i a σ H ∧ ∀ z, (∀ H L, RV X.K H L v z) → Q z H) := by
  unfold okEhL at h
  split at h
  · cases ev
    unfold okC at h
    split at h
    · exact PE.imp pe_non fun σ H Q q => q.2 _ fun _ _ => .mk_non
    · rw [← eq_of_beq h]
      exact PE.imp pe_bl fun σ H Q q => q.2 _ fun _ _ => .mk_bl
    · rw [← eq_of_beq h]
      exact PE.imp pe_int fun σ H Q q => q.2 _ fun _ _ => .mk_int
    · simp only [Bool.and_eq_true, decide_eq_true_eq, List.all_eq_true] at h
      obtain ⟨⟨rfl, h1⟩, h2⟩ := h
      exact PE.imp pe_str fun σ H Q q => q.2 _ fun _ _ => .mk_str ⟨h1, h2⟩
    · cases h
  · simp only [Bool.and_eq_true, decide_eq_true_eq] at h
    obtain ⟨rfl, rfl⟩ := h
    obtain ⟨T, hno⟩ := ok.xs.xf p e.hp
    refine PE.imp (pe_xf (X := X) T hno e.hz e.hf (pv_exc ok hi hv ho)) fun σ H Q q => ⟨q.1.at_, rfl, e.hc, ?_⟩
    rcases q.1.xr with ⟨_, _, e1⟩ | ⟨_, dd, w, z, e1, e2, _, e3, e4⟩
    · rw [e1] at ev; cases ev
    · rw [e2] at ev
      cases ev
      exact ⟨dd, _, z, e1, e3, by simp [List.lookup], q.2 z e4⟩
  · cases h
theorem eh_ls (ok : XOk G N call none sc X W) (e : InH X G a oe cls d p) (hi : N[i]? = some nm) (hv : visB sc nm = true) (ho : (!oddN nm) = true) : ∀ {ls : List EhL} {xs : List Expr} {vs : List Val}, okEhLs sc nm p.fld ls xs = true → evEhLs as ls = some vs →
    PA (X.suite a ((a, oe) :: pn)) xs (fun σ H Q => InS X.K p d as i a σ H ∧ ∀ zs, (∀ H L, RVs X.K H L vs zs) → Q zs H)
  | [], [], vs, h, ev => by
    cases ev
    exact PA.imp pa_nil fun σ H Q q => q.2 [] fun _ _ => RVs.nil
  | l :: r, x :: xs, vs, h, ev => by
    unfold okEhLs at h
    simp only [Bool.and_eq_true] at h
    unfold evEhLs at ev
    split at ev
    · rename_i v ws e1 e2
      cases ev
      exact PA.imp (pa_cons (eh_l ok e hi hv ho h.1.1 e1) (eh_ls ok e hi hv ho h.2 e2) (star_cons h.1.2)) fun σ H Q q => ⟨q.1, fun z hz => ⟨q.1, fun zs hzs => q.2 _ fun H L => RVs.cons (hz H L) (hzs H L)⟩⟩
    · cases ev
  | [], _ :: _, _, h, _ => by unfold okEhLs at h; cases h
  | _ :: _, [], _, h, _ => by unfold okEhLs at h; cases h
theorem evEhLs_len : ∀ {ls : List EhL} {vs : List Val}, evEhLs as ls = some vs → vs.length = ls.length
  | [], vs, h => by cases h; rfl
  | l :: r, vs, h => by
    unfold evEhLs at h
    split at h
    · rename_i v ws e1 e2
      cases h
      simp [evEhLs_len e2]
    · cases h
theorem small_size {n : Nat} (h : n ≤ 100) : n ≤ sizeLine := Nat.le_trans h (by rw [sizeLine_eq]; decide)
theorem eh_v (ok : XOk G N call none sc X W) (e : InH X G a oe cls d p) (hi : N[i]? = some nm) (hv : visB sc nm = true) (ho : (!oddN nm) = true) {l : EhV} {x : Expr} (h : okEhV sc nm p.fld l x = true) :
    PE (X.suite a ((a, oe) :: pn)) x (fun σ H Q => InS X.K p d as i a σ H ∧ ∃ h L v h', HR X.K H L h ∧ evEhV as h l = some (v, h') ∧ ∀ H' L', HR X.K H' L' h' → Ext X.K H L H' L' → ∀ z, RV X.K H' L' v z → Q z H') := by
  cases l with
  | leaf l =>
    cases ev : evEhL as l with
    | none => exact PE.absurd fun σ H Q ⟨_, h, L, v, h', _, e1, _⟩ => by simp only [evEhV] at e1; rw [ev] at e1; cases e1
    | some v =>
      refine PE.imp (eh_l ok e hi hv ho (show okEhL sc nm p.fld l x = true by unfold okEhV at h; exact h) ev) fun σ H Q ⟨q1, h, L, v', h', hr, e1, q⟩ => ⟨q1, fun z hz => ?_⟩
      simp only [evEhV] at e1
      rw [ev] at e1
      cases e1
      exact q H L hr .refl z (hz H L)
  | tup ls =>
    unfold okEhV at h
    split at h
    all_goals first | contradiction | (cases h; done) | skip
    rename_i es _ _ he
    cases he
    cases ev : evEhLs as ls with
    | none => exact PE.absurd fun σ H Q ⟨_, h, L, v, h', _, e1, _⟩ => by simp only [evEhV] at e1; rw [ev] at e1; split at e1 <;> cases e1
    | some vs =>
      refine PE.imp (pe_tup (eh_ls ok e hi hv ho h ev)) fun σ H Q ⟨q1, h, L, v', h', hr, e1, q⟩ => ⟨q1, fun zs hz => ?_⟩
      simp only [evEhV] at e1
      rw [ev] at e1
      split at e1
      · rename_i hl
        cases e1
        exact ⟨by rw [← (hz H L).length, evEhLs_len ev]; exact small_size hl, fun p' hp' => q _ _ (hr.new hp') (Ext.new hp') _ (RV.mk_tup (.inl (.inl upd_same)) (RVs.mono (Ext.new hp') _ _ (hz H L)))⟩
      · cases e1
  | lst ls =>
    unfold okEhV at h
    split at h
    all_goals first | contradiction | (cases h; done) | skip
    rename_i es _ he
    cases he
    cases ev : evEhLs as ls with
    | none => exact PE.absurd fun σ H Q ⟨_, h, L, v, h', _, e1, _⟩ => by simp only [evEhV] at e1; rw [ev] at e1; split at e1 <;> cases e1
    | some vs =>
      refine PE.imp (pe_lst (eh_ls ok e hi hv ho h ev)) fun σ H Q ⟨q1, h, L, v', h', hr, e1, q⟩ => ⟨q1, fun zs hz => ?_⟩
      simp only [evEhV] at e1
      rw [ev] at e1
      split at e1
      · rename_i hl
        cases e1
        exact ⟨by rw [← (hz H L).length, evEhLs_len ev]; exact small_size hl, fun p' hp' => q _ _ (hr.add hp' (hz H L)) (Ext.add hp') _ (RV.newLoc hr)⟩
      · cases e1

theorem cs_mem {x : Str} (hc : G.xcs[c]? = some p) : (csOf G x).contains c = p.anc.contains x := by
  have hlt : c < G.xcs.length := (List.getElem?_eq_some_iff.mp hc).1
  rw [Bool.eq_iff_iff, List.contains_iff_mem]
  unfold csOf
  rw [List.mem_filter, List.mem_range, hc]
  exact ⟨fun h => h.2, fun h => ⟨hlt, h⟩⟩
theorem hr0 {K : PySem.W.Frag} {H : Hp} : HR K H [] [] := ⟨rfl, .nil, fun n o e => by simp at e⟩
theorem eh_t (ok : XOk G N call none sc X W) (e : InH X G a oe cls d p) (hc : G.xcs[c]? = some p) (hi : N[i]? = some nm) (hv : visB sc nm = true) (ho : (!oddN nm) = true) : ∀ {t : EhT} {x : Expr} {b : Bool}, okEhT G sc nm p.fld t x = true → evEhT c as t = some b →
    PT (X.suite a ((a, oe) :: pn)) x (fun σ H Q => InS X.K p d as i a σ H ∧ Q b H) ∧ ∀ op vs ps, x = .BoolOp op vs ps → PW (X.suite a ((a, oe) :: pn)) x (fun σ H Q => InS X.K p d as i a σ H ∧ Q b H) := by
  intro t
  induction t with
  | isi cs =>
    intro x b h ev
    unfold okEhT at h
    split at h
    all_goals first | contradiction | (cases h; done) | skip
    rename_i f pf x' px y py pos he
    cases he
    simp only [Bool.and_eq_true, decide_eq_true_eq] at h
    obtain ⟨⟨⟨⟨⟨⟨rfl, rfl⟩, rfl⟩, h4⟩, h5⟩, h6⟩, h7⟩ := h
    have ev' : (csOf G y).contains c = b := Option.some.inj ev
    rw [cs_mem hc] at ev'
    refine ⟨?_, fun _ _ _ z => nomatch z⟩
    obtain ⟨o1, _, _⟩ := odd_of h6
    have hI : glB sc "isinstance" = true := h4
    have fin : ∀ (cv : Value) (y' : V), (∀ u, RelV y' u → u = cv) → PySem.W.kitOne X.K (.ref (p.at_ X.K)) cv = some b → PE (X.suite a ((a, oe) :: pn)) (.Name y py) (L2.tC y') →
        PT (X.suite a ((a, oe) :: pn)) (.Call (.Name "isinstance" pf) [.Name x' px, .Name y py] [] pos) (fun σ H Q => InS X.K p d as i a σ H ∧ Q b H) := fun cv y' hr hk hy => by
      refine PT.imp (pt_val (pe_callB (call_isX (as := as) (i := i) ok e) (sglS ok hI) (ok.unb _ (by simp [bnames])) (by decide +kernel) (pa_cons (pv_exc ok hi hv ho) (pa_cons hy pa_nil (star_cons rfl)) (star_cons rfl)) (by decide) (by decide) (star_cons rfl) (star_plain rfl))) fun σ H Q q => ?_
      exact ⟨q.1.at_, y', cv, b, σ, rfl, hr, hk, q.1, b, rfl, q.2⟩
    rcases (Bool.or_eq_true _ _).mp h7 with h7 | h7
    · unfold isCls at h7
      obtain ⟨q, hq, hn⟩ := List.any_eq_true.mp h7
      have hn := eq_of_beq hn
      subst hn
      refine fin (.ref (q.at_ X.K)) (.ref (q.at_ X.K)) (fun u hu => hu) (by rw [ok.xs.kit p e.hp q hq, ev']) (pe_glob (sglS ok h5) (ok.xs.cl q hq).1 rfl o1)
    · simp only [Bool.and_eq_true, decide_eq_true_eq] at h7
      obtain ⟨rfl, h7⟩ := h7
      have hlt : c < G.xcs.length := (List.getElem?_eq_some_iff.mp hc).1
      have : b = true := by
        rw [← ev', ← cs_mem hc, h7, List.contains_iff_mem, List.mem_range]
        exact hlt
      subst this
      exact fin (.type "ValueError") (.ty "ValueError") (fun u hu => hu) (ok.xs.kitV p e.hp) (pe_bltn (sglS ok h5) ok.xs.vE (by decide +kernel) rfl (by decide) o1)
  | feq j =>
    intro x b h ev
    unfold okEhT at h
    split at h
    all_goals first | contradiction | (cases h; done) | skip
    rename_i x' px f pf jj k pk pu pos he
    cases he
    simp only [Bool.and_eq_true, decide_eq_true_eq] at h
    obtain ⟨⟨rfl, rfl⟩, rfl⟩ := h
    refine ⟨?_, fun _ _ _ z => nomatch z⟩
    obtain ⟨j', ea, eb⟩ : ∃ j', as = [.int j'] ∧ decide (j' = -jj) = b := by
      unfold evEhT at ev
      split at ev
      · cases ev
        exact ⟨_, rfl, rfl⟩
      · cases ev
    subst ea
    have hl : evEhL [Val.int j'] .fld = some (.int j') := rfl
    refine PT.imp (pt_cmp (pc_eqI (eh_l (as := [.int j']) (i := i) ok e hi hv ho (l := .fld) (by unfold okEhL; simp) hl) (pe_un un_neg pe_int)) (mark_of rfl)) fun σ H Q q => ?_
    refine ⟨q.1, fun z hz => ?_⟩
    obtain rfl := (hz H []).int_of
    exact ⟨jj, rfl, j', -jj, rfl, rfl, _, rfl, by show Q (decide (j' = -jj)) H; rw [eb]; exact q.2⟩
  | not_ t ih =>
    intro x b h ev
    unfold okEhT at h
    split at h
    all_goals first | contradiction | (cases h; done) | skip
    rename_i y pos he
    cases he
    unfold evEhT at ev
    cases e1 : evEhT c as t with
    | none => rw [e1] at ev; cases ev
    | some b1 =>
      rw [e1] at ev
      cases ev
      refine ⟨PT.imp (pt_not (ih h e1).1) fun σ H Q q => ⟨q.1, q.2⟩, fun _ _ _ z => nomatch z⟩
  | and_ t u ih1 ih2 =>
    intro x b h ev
    unfold okEhT at h
    split at h
    all_goals first | contradiction | (cases h; done) | skip
    rename_i y z r ps he
    cases he
    simp only [Bool.and_eq_true] at h
    unfold evEhT at ev
    cases e1 : evEhT c as t with
    | none => rw [e1] at ev; cases ev
    | some b1 =>
      rw [e1] at ev
      have w : PW (X.suite a ((a, oe) :: pn)) (.BoolOp .And (y :: z :: r) ps) (fun σ H Q => InS X.K p d as i a σ H ∧ Q b H) := by
        cases b1 with
        | false =>
          cases ev
          exact PW.imp (pw_and (ih1 h.1 e1).1 (tB' := fun _ _ _ => False) ⟨fun _ _ _ _ _ _ _ z => z.elim⟩) fun σ H Q q => ⟨q.1, q.2⟩
        | true =>
          have ev' : evEhT c as u = some b := ev
          have k := ih2 h.2 ev'
          have wb : PW (X.suite a ((a, oe) :: pn)) (.BoolOp .And (z :: r) ps) (fun σ H Q => InS X.K p d as i a σ H ∧ Q b H) := by
            cases r with
            | nil => exact pw_and1 k.1
            | cons _ _ => exact k.2 _ _ _ rfl
          exact PW.imp (pw_and (ih1 h.1 e1).1 wb) fun σ H Q q => ⟨q.1, q.1, q.2⟩
      exact ⟨w.pt, fun _ _ _ _ => w⟩
  | or_ t u ih1 ih2 =>
    intro x b h ev
    unfold okEhT at h
    split at h
    all_goals first | contradiction | (cases h; done) | skip
    rename_i y z r ps he
    cases he
    simp only [Bool.and_eq_true] at h
    unfold evEhT at ev
    cases e1 : evEhT c as t with
    | none => rw [e1] at ev; cases ev
    | some b1 =>
      rw [e1] at ev
      have w : PW (X.suite a ((a, oe) :: pn)) (.BoolOp .Or (y :: z :: r) ps) (fun σ H Q => InS X.K p d as i a σ H ∧ Q b H) := by
        cases b1 with
        | true =>
          cases ev
          exact PW.imp (pw_or (ih1 h.1 e1).1 (tB' := fun _ _ _ => False) ⟨fun _ _ _ _ _ _ _ z => z.elim⟩) fun σ H Q q => ⟨q.1, q.2⟩
        | false =>
          have ev' : evEhT c as u = some b := ev
          have k := ih2 h.2 ev'
          have wb : PW (X.suite a ((a, oe) :: pn)) (.BoolOp .Or (z :: r) ps) (fun σ H Q => InS X.K p d as i a σ H ∧ Q b H) := by
            cases r with
            | nil => exact pw_or1 k.1
            | cons _ _ => exact k.2 _ _ _ rfl
          exact PW.imp (pw_or (ih1 h.1 e1).1 wb) fun σ H Q q => ⟨q.1, q.1, q.2⟩
      exact ⟨w.pt, fun _ _ _ _ => w⟩
end
end Gu
end

section
set_option Elab.async false
set_option linter.all false
set_option maxRecDepth 100000
/-! Gq: name = a dict comprehension (at the machine's side). -/
namespace Gu
open PySem PySem.Spec PyProof.Rows L2
theorem ps_setDc {X : Cx} {i : Nat} {y : Str} {py : Pos} {kx vx tg iter : Expr} {ifs : List Expr} {scope : Scope} {own : List (Str × Nat)} {pos spos : Pos} {wi : TI} {g : TG} {tt : TT} {tk tv : TE} (hc : X.calm = true) (hN : X.N.Nodup) (hy : X.N[i]? = some y) (hyl : X.env.scope.names.lookup y = some .local)
    (hsw : swapsWith (.DictComp kx vx [⟨tg, iter, ifs, 0⟩] scope pos) (some (.Name y py)) spos.line X.env = pure true) (hi : PI X tg iter wi) (ok : BlkOk X.N X.env.scope scope own)
    (hg : ∀ (s : Shared) (H : Hp) (C : Addr) (cl : List (Str × Addr)) (fp : List Addr), PG (X.blk s H scope (compEnvC scope cl C X.env) fp) tg g) (ht : ∀ (s : Shared) (H : Hp) (C : Addr) (cl : List (Str × Addr)) (fp : List Addr), PTs (X.blk s H scope (compEnvC scope cl C X.env) fp) ifs tt)
    (hk : ∀ (s : Shared) (H : Hp) (C : Addr) (cl : List (Str × Addr)) (fp : List Addr), PE (X.blk s H scope (compEnvC scope cl C X.env) fp) kx tk)
    (he : ∀ (s : Shared) (H : Hp) (C : Addr) (cl : List (Str × Addr)) (fp : List Addr), PE (X.blk s H scope (compEnvC scope cl C X.env) fp) vx tv) (hs : ∀ x, foldedSetIterable iter X.env x = pure x := by intro _; rfl) :
    PS X (.Assign [.Name y py] (.DictComp kx vx [⟨tg, iter, ifs, 0⟩] scope pos) spos) (tAsg (tDc wi g tt tk tv (own.map (·.2))) (gName i)) := by
  refine ⟨fun pins s σ H D I h => ?_⟩
  rw [exec_Assign_Name_used _ _ _ _ hsw]
  refine wpAny_bind (wpAny_standAt (wpAny_bind ?_))
  show wpAny _ X.A (do let _ ← comprehension (.DictComp kx vx [⟨tg, iter, ifs, 0⟩] scope pos) scope X.env (firstIterPos [⟨tg, iter, ifs, 0⟩] pos) newDict false (eval iter X.env) (some (assign (.Name y py) X.env))) _ _ s
  have h : tDc wi g tt tk tv (own.map (·.2)) σ H (fun x H1 => gName i x σ H1 D.nx) := h
  refine wpAny_bind (thn (dc_core (Qf := fun _ s' => SP X pins D .next s') hc hN I hi ok hg ht hk he hs h fun L C s' m H' I' q hn f => ?_) fun _ s' hq => wpAny_pure (wpAny_pure hq))
  show wpAny _ _ (assign (.Name y py) X.env (.ref L)) _ _ _
  refine wpAny_assign_Name (store_ok2 (v := V.ref L) I' hN hy (.inl hyl) rfl (fun s2 I2 ⟨a, sb, ha⟩ => ?_) (.inr hyl))
  obtain ⟨f0, f1, f2, f3, f4, f5⟩ := f
  have haC : C ≠ a := by
    rcases ha with z | z
    · rw [z]; exact f1
    · exact fun e => f4 y a z e.symm
  refine ⟨m, hn.sameBut sb haC, fun h3 sb3 => ?_⟩
  exact ⟨_, H', I2.turned (t' := s2.toks) (fun b o hb e => (sb3.2 b hb).trans e) f0 f1 f3 f4 f5, q⟩
end Gu
end

section
set_option Elab.async false
set_option linter.all false
set_option maxRecDepth 100000
set_option maxHeartbeats 1000000
/-! Gu12: statements. -/
namespace Gu
open PySem PySem.Spec PyProof.Rows L2
inductive Ns where
  | one (s : Stmt) | many (ss : List Stmt)
def noTup : Expr → Bool
  | .Tuple .. => false
  | _ => true
/-- a, b = x, y -/
def swpB (sc : Scope) (is : List Nat) (es : List Expr) (e : E) (v : Expr) : Bool := match is, es, e, v with
  | [i, j], [.Name x px, .Name y py], .tup (.cons _ (.cons _ .nil)), .Tuple [va, vb] _ _ => decide (i ≠ j) && (decide (sc.names.lookup x = some .local) && (decide (sc.names.lookup y = some .local) && (decide (x ≠ y) && ((py.line == px.line) && (noStar va && (noStar vb && (!([va, vb].all (foldedForSure 8)) && !([va, vb].all (constantsAlone 8)))))))))
  | _, _, _, _ => false
/-- name = a comprehension: the machine's own form, or the plain one -/
def lcSw (sc : Scope) (x : Str) (p : Pos) : Expr → Bool
  | .ListComp _ _ s pv => (sc.names.lookup x == some .local) && (p.line == pv.line) && !(s.names.any fun (n, k) => n == x && (k == .local || k == .cell))
  | .DictComp _ _ _ s pv => (sc.names.lookup x == some .local) && (p.line == pv.line) && !(s.names.any fun (n, k) => n == x && (k == .local || k == .cell))
  | _ => false
def plainComp : Expr → Bool
  | .SetComp .. => false
  | _ => true
/-- the clauses of a try -/
def okHs (G : GT) (N : List Str) (sc : Scope) : List (List Nat × Nat × EhS) → List ExceptHandler → Bool
  | [], [] => true
  | (cs, n, s) :: r, .ExceptHandler (some (.Name x _)) (some nm) (b :: bs) _ :: hs => decide (N[n]? = some nm) && decide (sc.names.lookup nm = some .local) && !oddN nm && glB sc x && !oddN x && isCls G x && decide (cs = csOf G x) &&
      G.xcs.all (fun p => !p.anc.contains x || okEhS G sc nm p.fld s (b :: bs)) && okHs G N sc r hs
  | _, _ => false
def okB (G : GT) (N : List Str) (sc : Scope) : S → Ns → Bool
  | .raise c es, .one (.Raise (some (.Call (.Name x _) [a] [] _)) none _) => (match G.xcs[c]? with
      | some p => decide (p.name = x) && glB sc x && !oddN x && noStar a && ((decide (p.kind = 1) && (match es, a with | .nil, .Constant (.str _) _ _ => true | _, _ => false)) || (decide (p.kind = 2) && (match es with | .cons _ .nil => true | _ => false) && okE G N es none sc (.es [a])))
      | none => false)
  | .try_ b hs, .one (.Try body (h :: r) [] [] _) => okB G N sc b (.many body) && okHs G N sc hs (h :: r)
  | .skip, .many [] => true
  | .skip, .one (.Pass _) => true
  | .seq a b, .many (s :: r) => okB G N sc a (.one s) && okB G N sc b (.many r)
  | .asg (.nt (.nm i)) e, .one (.Assign [.Name x p] v _) => okN N none sc i (.Name x p) && okE G N e none sc (.e v) && plainComp v
  | .asg (.nt (.tp is)) e, .one (.Assign [.Tuple es k p] v _) => okT N none sc (.tp is) (.Tuple es k p) && (noTup v || (decide (3 < es.length) || swpB sc is es e v)) && okE G N e none sc (.e v)
  | .asg (.sub o i) e, .one (.Assign [.Subscript x y _] v _) => noSl y && okE G N o none sc (.e x) && okE G N i none sc (.e y) && okE G N e none sc (.e v)
  | .asg (.sn o i j) e, .one (.Assign [.Tuple [.Subscript x y _, .Name n np] _ _] v _) => noSl y && noTup v && okN N none sc j (.Name n np) && okE G N o none sc (.e x) && okE G N i none sc (.e y) && okE G N e none sc (.e v)
  | .dput o i e, .one (.Assign [.Subscript x y _] v _) => noSl y && okE G N o none sc (.e x) && okE G N i none sc (.e y) && okE G N e none sc (.e v)
  | .dcp t d g, .one (.For (.Name x p) (.Name y py) [.Assign [.Subscript (.Name z pz) (.Name x1 p1) _] (.Subscript (.Name y1 py1) (.Name x2 p2) _) _] [] _) => okN N none sc t (.Name x p) && decide (x1 = x) && decide (x2 = x) && decide (y1 = y) &&
      decide (N[d]? = some y) && visB sc y && !oddN y && decide (N[g]? = some z) && visB sc z && !oddN z && visB sc x && !oddN x
  | .aug i op e, .one (.AugAssign (.Name x p) op' v _) => decide (op = op') && okN N none sc i (.Name x p) && !oddN x && okE G N e none sc (.e v)
  | .expr e, .one (.Expr v _) => noComp v && okE G N e none sc (.e v)
  | .ret e, .one (.Return (some v) _) => okE G N e none sc (.e v)
  | .retn, .one (.Return none _) => true
  | .ite c a b, .one (.If x ys zs _) => okE G N c none sc (.e x) && okB G N sc a (.many ys) && okB G N sc b (.many zs)
  | .whl c b, .one (.While x ys [] _) => okE G N c none sc (.e x) && okB G N sc b (.many ys)
  | .for_ t it b, .one (.For tg x ys [] _) => okT N none sc t tg && noSetT it tg x && okE G N it none sc (.e x) && okB G N sc b (.many ys)
  | .forU is it b, .one (.For (.Tuple es k p) x ys [] _) => okNs N none sc is es && noSetT it (.Tuple es k p) x && okE G N it none sc (.e x) && okB G N sc b (.many ys)
  | .fset c o f e, .one (.Assign [.Attribute x n _] v _) => decide (n = f) && ofB G c f && okE G N o none sc (.e x) && okE G N e none sc (.e v)
  | .faug c o f op e, .one (.AugAssign (.Attribute x n _) op' v _) => decide (n = f) && decide (op = op') && (decide (op = .Add) || decide (op = .Sub)) && ofB G c f && okE G N o none sc (.e x) && okE G N e none sc (.e v)
  | .ddel d k, .one (.Delete [.Subscript x y _] _) => okE G N d none sc (.e x) && okE G N k none sc (.e y)
  | .brk, .one (.Break _) => true
  | .cnt, .one (.Continue _) => true
  | .never, _ => true
  | _, _ => false

/-! ### outcomes -/
def outS (K : PySem.W.Frag) (W : L2.St → XW) (D : Ends) (H : Hp) (L : List Addr) : RS → Prop
  | .no => False
  | .nx ρ' h' => ∀ σ' H' L', Slots K H' L' ρ' σ' → HR K H' L' h' → Ext K H L H' L' → D.nx σ' H'
  | .bk ρ' h' => ∀ σ' H' L', Slots K H' L' ρ' σ' → HR K H' L' h' → Ext K H L H' L' → D.bk σ' H'
  | .ct ρ' h' => ∀ σ' H' L', Slots K H' L' ρ' σ' → HR K H' L' h' → Ext K H L H' L' → D.ct σ' H'
  | .rt v h' => ∀ x H' L', HR K H' L' h' → Ext K H L H' L' → RV K H' L' v x → D.rt x H'
  | .ex c as ρ' h' => ∀ σ' H' L', Slots K H' L' ρ' σ' → HR K H' L' h' → Ext K H L H' L' → W σ' c as h' H' L'
section
variable {K : PySem.W.Frag} {W : L2.St → XW} {D D' : Ends} {H H' : Hp} {L L' : List Addr} {ρ : Rho} {σ : L2.St} {h : MH}
theorem outS.from (x : Ext K H L H' L') {r : RS} (q : outS K W D H L r) : outS K W D H' L' r := by
  cases r with
  | no => exact q
  | nx ρ' h' => exact fun σ' H'' L'' a b c => q σ' H'' L'' a b (x.trans c)
  | bk ρ' h' => exact fun σ' H'' L'' a b c => q σ' H'' L'' a b (x.trans c)
  | ct ρ' h' => exact fun σ' H'' L'' a b c => q σ' H'' L'' a b (x.trans c)
  | rt v h' => exact fun z H'' L'' a b c => q z H'' L'' a (x.trans b) c
  | ex c as ρ' h' => exact fun σ' H'' L'' a b c => q σ' H'' L'' a b (x.trans c)
theorem outS.toS {α : Type} {r : R α} {f : α → MH → RS} (rs : Slots K H L ρ σ) (q : outS K W D H L (r.toS ρ f)) : outV K (W σ) H L r fun a h1 H1 L1 => outS K W D H1 L1 (f a h1) := by
  cases r with
  | no => exact q
  | ok a h1 => exact fun H1 L1 r1 x1 => outS.from x1 (show outS K W D H L (f a h1) from q)
  | ex c as h1 => exact fun H1 L1 r1 x1 => q σ H1 L1 (rs.mono x1) r1 x1
theorem outS.hereN {ρ' : Rho} (q : outS K W D H L (.nx ρ' h)) (r : HR K H L h) {σ' : L2.St} (rs : Slots K H L ρ' σ') : D.nx σ' H := q σ' H L rs r .refl
end
def tSt (K : PySem.W.Frag) (W : L2.St → XW) (call : CallT) (s : S) : TS := fun D σ H => ∃ ρ h L, Slots K H L ρ σ ∧ HR K H L h ∧ outS K W D H L (evS call s ρ h)
def SndS (X : Cx) (W : L2.St → XW) (call : CallT) (s : S) : Ns → Prop
  | .one st => PS X st (tSt X.K W call s)
  | .many sts => PSs X sts (tSt X.K W call s)
section
variable {G : GT} {N : List Str} {call : CallT} {X : Cx} {W : L2.St → XW} {sc : Scope}
theorem PS.imp {st : Stmt} {t t' : TS} (h : PS X st t) (i : ∀ D σ H, t' D σ H → t D σ H) : PS X st t' := ⟨fun pins s σ H D I q => h.run pins s σ H D I (i _ _ _ q)⟩
theorem PSs.imp {st : List Stmt} {t t' : TS} (h : PSs X st t) (i : ∀ D σ H, t' D σ H → t D σ H) : PSs X st t' := ⟨fun pins s σ H D I q => h.run pins s σ H D I (i _ _ _ q)⟩
theorem swE {e : Expr} {tg : Option Expr} {n : Nat} {env : Env} (h : noComp e = true) : swapsWith e tg n env = pure false := by
  cases e <;> first | rfl | (cases h; done)
theorem swLc {elt : Expr} {gs : List Comprehension} {s : Scope} {pv p : Pos} {x : Str} {n : Nat} {env : Env} (hk : env.scope.kind = .function) :
    swapsWith (.ListComp elt gs s pv) (some (.Name x p)) n env = pure (lcSw env.scope x p (.ListComp elt gs s pv)) := by
  have hb : env.blockKind = .function := by unfold Env.blockKind; rw [hk]; rfl
  unfold swapsWith lcSw
  simp only [hb, Expr.pos]
  rfl
theorem swDc {kx vx : Expr} {gs : List Comprehension} {s : Scope} {pv p : Pos} {x : Str} {n : Nat} {env : Env} (hk : env.scope.kind = .function) :
    swapsWith (.DictComp kx vx gs s pv) (some (.Name x p)) n env = pure (lcSw env.scope x p (.DictComp kx vx gs s pv)) := by
  have hb : env.blockKind = .function := by unfold Env.blockKind; rw [hk]; rfl
  unfold swapsWith lcSw
  simp only [hb, Expr.pos]
  rfl
theorem swStore {es : List Expr} {k : Nat} {p : Pos} {v : Expr} {env : Env} (h : noTup v = true) : swappedStores [.Tuple es k p] v env = pure none := by
  cases v <;> first | rfl | (cases h; done)

theorem swStore4 {es : List Expr} {k : Nat} {p : Pos} {v : Expr} {env : Env} (h : 3 < es.length) : swappedStores [.Tuple es k p] v env = pure none := by
  have h2 : (es.length == 2) = false := by simp; omega
  have h3 : (es.length == 3) = false := by simp; omega
  cases v <;> first | rfl | skip
  unfold swappedStores
  simp [h2, h3]
theorem swStore2 {x y : Str} {px py p p2 : Pos} {k k2 : Nat} {va vb : Expr} {env : Env} (hk : env.scope.kind = .function) (hx : env.scope.names.lookup x = some .local) (hy : env.scope.names.lookup y = some .local) (ne : x ≠ y) (hl : (py.line == px.line) = true)
    (sa : noStar va = true) (sb : noStar vb = true) (hf : (!([va, vb].all (foldedForSure 8))) = true) (hc : (!([va, vb].all (constantsAlone 8))) = true) :
    swappedStores [.Tuple [.Name x px, .Name y py] k p] (.Tuple [va, vb] k2 p2) env = pure (some [x, y]) := by
  have hb : env.blockKind = .function := by unfold Env.blockKind; rw [hk]; rfl
  have kx : env.kindOf x = some .local := hx
  have ky : env.kindOf y = some .local := hy
  have hf2 : ([va, vb].all (foldedForSure 8)) = false := Bool.not_eq_true' _ ▸ hf
  have hc2 : ([va, vb].all (constantsAlone 8)) = false := Bool.not_eq_true' _ ▸ hc
  have hyx : (y == x) = false := by simpa using Ne.symm ne
  have er : ([x, y] : List Str).eraseDups.length = 2 := by
    simp [List.eraseDups, List.eraseDupsBy, List.eraseDupsBy.loop, hyx]
  unfold swappedStores
  dsimp only
  rw [if_neg (by simp [hb])]
  rw [if_neg (by cases va <;> first | (cases sa; done) | (cases vb <;> first | (cases sb; done) | (intro z; cases z)))]
  have hl2 : py.line = px.line := eq_of_beq hl
  rw [hf2, hc2]
  simp [kx, ky, hl2, er, Expr.pos, List.eraseDups, List.eraseDupsBy, List.eraseDupsBy.loop, hyx]
section
variable (ok : XOk G N call none sc X W)
include ok
theorem e_of {e : E} {x : Expr} (h : okE G N e none sc (.e x) = true) : SndE X W call e x := snd e X W none sc (.e x) ok h
theorem ss_dc {i : Nat} {e : E} {x : Str} {p pos : Pos} {kx vx : Expr} {gs : List Comprehension} {s : Scope} {pv : Pos} (h1 : okN N none sc i (.Name x p) = true) (h2 : okE G N e none sc (.e (.DictComp kx vx gs s pv)) = true) (hk : sc.kind = .function) :
    PS X (.Assign [.Name x p] (.DictComp kx vx gs s pv) pos) (tSt X.K W call (.asg (.nt (.nm i)) e)) := by
  have hn : X.N.Nodup := by rw [ok.names]; exact ok.nd
  have h1' : (decide (N[i]? = some x) && stB none sc x) = true := h1
  simp only [Bool.and_eq_true, decide_eq_true_eq] at h1'
  obtain ⟨q1, q2⟩ := stB_of ok h1'.2
  have hi : X.N[i]? = some x := by rw [ok.names]; exact h1'.1
  have fin : ∀ D σ H, tSt X.K W call (.asg (.nt (.nm i)) e) D σ H → tAsg (tV X.K W call e) (gName i) D σ H := fun D σ H q => by
    obtain ⟨ρ, h, L, rs, hr, q⟩ := q
    refine ⟨ρ, h, L, rs, hr, ?_⟩
    refine (outS.toS rs q).imp fun v h1 H1 L1 r1 x1 q1 => ?_
    intro z hz
    exact outS.hereN q1 r1 ((rs.mono x1).set i hz)
  cases hc : lcSw sc x p (.DictComp kx vx gs s pv) with
  | false =>
    refine PS.imp (ps_set hn hi q1 (e_of ok h2).pe ?_ q2) fin
    rw [swDc (by rw [ok.sc]; exact hk), ok.sc, hc]
  | true =>
    have hl : X.env.scope.names.lookup x = some .local := by
      have hc' : ((sc.names.lookup x == some .local) && (p.line == pv.line) && !(s.names.any fun (n, k) => n == x && (k == .local || k == .cell))) = true := hc
      rw [Bool.and_eq_true, Bool.and_eq_true] at hc'
      rw [ok.sc]
      exact eq_of_beq hc'.1.1
    have hsw : ∀ l, swapsWith (.DictComp kx vx gs s pv) (some (.Name x p)) l X.env = pure true := fun l => by rw [swDc (by rw [ok.sc]; exact hk), ok.sc, hc]
    unfold okE at h2
    split at h2
    all_goals first | contradiction | (rename_i he; cases he; done) | (cases h2; done) | skip
    rename_i he
    cases he
    simp only [Bool.and_eq_true, decide_eq_true_eq, List.all_eq_true] at h2
    obtain ⟨⟨⟨⟨⟨⟨⟨⟨g1, g2⟩, g3⟩, g4⟩, g5⟩, g6⟩, g7⟩, g8⟩, g9⟩ := h2
    rename_i own t it cond ek ev' _ _ _
    refine PS.imp (ps_setDc (own := ownP N own) (g := gNT X.K t) (tt := tT X.K noW call cond) (tk := tV X.K noW call ek) (tv := tV X.K noW call ev') ok.calm hn hi hl (hsw _) ((e_of ok (W := W) g5).pi _ (noSetT_2 g4))
      (by rw [ok.names, ok.sc]; exact blkOk_by g1) (fun s H C cl fp => pg_t (ok.blk _ s H C cl fp) g3) (fun s H C cl fp => (snd cond _ noW _ _ (.es _) (ok.blk _ s H C cl fp) g7).pts g6) (fun s H C cl fp => (snd ek _ noW _ _ (.e _) (ok.blk _ s H C cl fp) g8).pe) (fun s H C cl fp => (snd ev' _ noW _ _ (.e _) (ok.blk _ s H C cl fp) g9).pe) (set_of (noSetT_1 g4))) fun D σ H q => ?_
    rw [own_snd]
    exact t_dc g2 (fin D σ H q)
theorem ss_name {i : Nat} {e : E} {x : Str} {p pos : Pos} {v : Expr} (h1 : okN N none sc i (.Name x p) = true) (h2 : okE G N e none sc (.e v) = true) (h3 : plainComp v = true) (hk : sc.kind = .function) :
    PS X (.Assign [.Name x p] v pos) (tSt X.K W call (.asg (.nt (.nm i)) e)) := by
  have hn : X.N.Nodup := by rw [ok.names]; exact ok.nd
  have h1' : (decide (N[i]? = some x) && stB none sc x) = true := h1
  simp only [Bool.and_eq_true, decide_eq_true_eq] at h1'
  obtain ⟨q1, q2⟩ := stB_of ok h1'.2
  have hi : X.N[i]? = some x := by rw [ok.names]; exact h1'.1
  have fin : ∀ D σ H, tSt X.K W call (.asg (.nt (.nm i)) e) D σ H → tAsg (tV X.K W call e) (gName i) D σ H := fun D σ H q => by
    obtain ⟨ρ, h, L, rs, hr, q⟩ := q
    refine ⟨ρ, h, L, rs, hr, ?_⟩
    refine (outS.toS rs q).imp fun v h1 H1 L1 r1 x1 q1 => ?_
    intro z hz
    exact outS.hereN q1 r1 ((rs.mono x1).set i hz)
  cases v <;> first | (cases h3; done) | (exact PS.imp (ps_set hn hi q1 (e_of ok h2).pe rfl q2) fin) | skip
  case DictComp kx vx gs s pv =>
    exact ss_dc ok h1 h2 hk
  rename_i elt gs s pv
  cases hc : lcSw sc x p (.ListComp elt gs s pv) with
  | false =>
    refine PS.imp (ps_set hn hi q1 (e_of ok h2).pe ?_ q2) fin
    rw [swLc (by rw [ok.sc]; exact hk), ok.sc, hc]
  | true =>
    have hl : X.env.scope.names.lookup x = some .local := by
      have hc' : ((sc.names.lookup x == some .local) && (p.line == pv.line) && !(s.names.any fun (n, k) => n == x && (k == .local || k == .cell))) = true := hc
      rw [Bool.and_eq_true, Bool.and_eq_true] at hc'
      rw [ok.sc]
      exact eq_of_beq hc'.1.1
    have hsw : ∀ l, swapsWith (.ListComp elt gs s pv) (some (.Name x p)) l X.env = pure true := fun l => by rw [swLc (by rw [ok.sc]; exact hk), ok.sc, hc]
    unfold okE at h2
    split at h2
    all_goals first | contradiction | (rename_i he; cases he; done) | (cases h2; done) | skip
    · rename_i he
      cases he
      simp only [Bool.and_eq_true, decide_eq_true_eq, List.all_eq_true] at h2
      obtain ⟨⟨⟨⟨⟨⟨⟨g1, g2⟩, g3⟩, g4⟩, g5⟩, g6⟩, g7⟩, g8⟩ := h2
      rename_i own t it cond elE _ _ _
      refine PS.imp (ps_setLc (own := ownP N own) (g := gNT X.K t) (tt := tT X.K noW call cond) (te := tV X.K noW call elE) ok.calm hn hi hl (hsw _) ((e_of ok (W := W) g5).pi _ (noSetT_2 g4))
        (by rw [ok.names, ok.sc]; exact blkOk_by g1) (fun s H C cl fp => pg_t (ok.blk _ s H C cl fp) g3) (fun s H C cl fp => (snd cond _ noW _ _ (.es _) (ok.blk _ s H C cl fp) g7).pts g6) (fun s H C cl fp => (snd elE _ noW _ _ (.e _) (ok.blk _ s H C cl fp) g8).pe) (set_of (noSetT_1 g4))) fun D σ H q => ?_
      rw [own_snd]
      exact t_lc g2 (fin D σ H q)
    · rename_i he
      cases he
      simp only [Bool.and_eq_true, decide_eq_true_eq, List.all_eq_true] at h2
      obtain ⟨⟨⟨⟨⟨⟨⟨⟨g1, g2⟩, g9⟩, g3⟩, g4⟩, g5⟩, g6⟩, g7⟩, g8⟩ := h2
      rename_i own t it cond rest _ _ _ _
      refine PS.imp (ps_setLcN (own := ownP N own) (g := gNT X.K t) (tt := tT X.K noW call cond) (cs := clsOf X.K call rest) (te := teOf X.K call rest) ok.calm hn hi hl (hsw _) ((e_of ok (W := W) g5).pi _ (noSetT_2 g4))
        (by rw [ok.names, ok.sc]; exact blkOk_by g1) (fun s H C cl fp => pg_t (ok.blk _ s H C cl fp) g3) (fun s H C cl fp => (snd cond _ noW _ _ (.es _) (ok.blk _ s H C cl fp) g7).pts g6)
        (fun s' H C cl fp => (show SndC _ call rest elt _ from snd rest _ noW _ _ (.gs _ _) (ok.blk s s' H C cl fp) g8).2.1 _ 1 _ rfl (by rw [own_snd]; exact g9)) (fun s' H C cl fp => (show SndC _ call rest elt _ from snd rest _ noW _ _ (.gs _ _) (ok.blk s s' H C cl fp) g8).1) (set_of (noSetT_1 g4))) fun D σ H q => ?_
      rw [own_snd]
      exact t_lcn g2 ((show SndC (X.blk ⟨X.base, #[], ⟨0, 0, 0, 0⟩, 0, default⟩ (fun _ => none) s (compEnvC s [] 0 X.env) []) call rest elt _ from snd rest _ noW _ _ (.gs _ _) (ok.blk s ⟨X.base, #[], ⟨0, 0, 0, 0⟩, 0, default⟩ (fun _ => none) 0 [] []) g8).2.2) (fin D σ H q)
omit ok in
theorem ip_f {op : Operator} {f : Int → Int → Int} (h : augF op = some f) : PIp X op (ipI f) := by
  cases op <;> first | (cases h; done) | skip
  · cases h; exact ip_add
  · cases h; exact ip_sub
theorem ss_aug {i : Nat} {op : Operator} {e : E} {x : Str} {p pos : Pos} {v : Expr} (h1 : okN N none sc i (.Name x p) = true) (h2 : okE G N e none sc (.e v) = true) :
    PS X (.AugAssign (.Name x p) op v pos) (tSt X.K W call (.aug i op e)) := by
  have hn : X.N.Nodup := by rw [ok.names]; exact ok.nd
  have h1' : (decide (N[i]? = some x) && stB none sc x) = true := h1
  simp only [Bool.and_eq_true, decide_eq_true_eq] at h1'
  obtain ⟨q1, q2⟩ := stB_of ok h1'.2
  have hi : X.N[i]? = some x := by rw [ok.names]; exact h1'.1
  cases ef : augF op with
  | none =>
    refine ⟨fun pins s σ H D I q => ?_⟩
    obtain ⟨ρ, h, L, rs, hr, q⟩ := q
    have q : outS X.K W D H L (match (ρ[i]?).join, augF op with
      | some (.int a), some f => ((ev call e).v ρ h).toS ρ fun y h1 => match y with
        | .int b => .nx (ρ.set i (some (.int (f a b)))) h1
        | _ => .no
      | _, _ => .no) := q
    rw [ef] at q
    split at q
    · rename_i z; cases z
    · exact q.elim
  | some f =>
    refine PS.imp (ps_aug hn hi q1 (e_of ok (W := W) h2).pe (ip_f ef) q2) fun D σ H q => ?_
    obtain ⟨ρ, h, L, rs, hr, q⟩ := q
    have q : outS X.K W D H L (match (ρ[i]?).join, augF op with
      | some (.int a), some f => ((ev call e).v ρ h).toS ρ fun y h1 => match y with
        | .int b => .nx (ρ.set i (some (.int (f a b)))) h1
        | _ => .no
      | _, _ => .no) := q
    split at q
    · rename_i a f' e1 e2
      rw [ef] at e2
      cases e2
      have e2 : ρ[i]? = some (some (.int a)) := by
        cases e : ρ[i]? with
        | none => rw [e] at e1; cases e1
        | some u => rw [e] at e1; have e1' : u = some (.int a) := e1; rw [e1']
      obtain ⟨z, ez, hz⟩ := rs.at_ _ _ e2
      obtain rfl := hz.int_of
      refine ⟨_, ez, ρ, h, L, rs, hr, ?_⟩
      refine (outS.toS rs q).imp fun v h1 H1 L1 r1 x1 q1 => ?_
      intro w hw
      split at q1
      · obtain rfl := hw.int_of
        exact ⟨_, _, rfl, rfl, outS.hereN q1 r1 ((rs.mono x1).set i .mk_int)⟩
      · exact q1.elim
    · exact q.elim
end
end
end Gu
end

section
set_option Elab.async false
set_option linter.all false
set_option maxRecDepth 100000
set_option maxHeartbeats 1000000
/-! Gu12d: d[k] = v; for k in d: g[k] = d[k]. -/
namespace Gu
open PySem PySem.Spec PyProof.Rows L2
theorem upd_comm {H : Hp} {a b : Addr} {o u : HO} (h : a ≠ b) : upd (upd H a o) b u = upd (upd H b u) a o := by
  funext c
  unfold upd
  by_cases e1 : c = b
  · subst e1
    simp [Ne.symm h]
  · simp [e1]
theorem swSub0 {a b : Expr} {n : Nat} {p : Pos} {v : Expr} {env : Env} : swapsWith v (some (.Subscript a b p)) n env = pure false := by
  unfold swapsWith
  cases v <;> rfl
theorem RD.at {K : PySem.W.Frag} {H : Hp} {L : List Addr} : ∀ {ps : List Val} {kvs : List (Key × V)} {i : Nat} {kk : Key} {x : V}, RD K H L ps kvs → kvs[i]? = some (kk, x) →
    ∃ k v, ps[i]? = some (.tup [k, v]) ∧ keyOf k = some kk ∧ RV K H L k (kV kk) ∧ RV K H L v x
  | [], kvs, i, kk, x, r, e => by rw [show kvs = [] from r] at e; simp at e
  | p :: ps, kvs, i, kk, x, r, e => by
    obtain ⟨k0, v0, kk0, x0, s, rfl, rfl, e3, e4, e5, e6⟩ := r
    cases i with
    | zero =>
      have e' : (kk0, x0) = (kk, x) := by simpa using e
      cases e'
      exact ⟨k0, v0, rfl, e3, e4, e5⟩
    | succ i =>
      obtain ⟨k, v, q1, q2, q3, q4⟩ := RD.at (i := i) e6 (by simpa using e)
      exact ⟨k, v, by simpa using q1, q2, q3, q4⟩
theorem drop_cons {α : Type} {l : List α} {i : Nat} {x : α} (h : l[i]? = some x) : l.drop i = x :: l.drop (i + 1) := by
  obtain ⟨hi, e⟩ := List.getElem?_eq_some_iff.mp h
  rw [List.drop_eq_getElem_cons hi, e]
theorem valV_mem {κ : Type} [DecidableEq κ] {kvs : List (κ × V)} {i : Nat} {k : κ} {x : V} (h : kvs[i]? = some (k, x)) : ∃ y, valV kvs k = some y := by
  have : (valV kvs k).isSome = true := by
    rw [← valV_any, List.any_eq_true]
    exact ⟨(k, x), List.mem_of_getElem? h, by simp⟩
  exact Option.isSome_iff_exists.mp this
section
variable {G : GT} {N : List Str} {call : CallT} {X : Cx} {W : L2.St → XW} {sc : Scope}
theorem ss_dput (ok : XOk G N call none sc X W) {o i e : E} {x y v : Expr} {p pos : Pos} (h1 : noSl y = true) (h2 : okE G N o none sc (.e x) = true) (h3 : okE G N i none sc (.e y) = true) (h4 : okE G N e none sc (.e v) = true) :
    PS X (.Assign [.Subscript x y p] v pos) (tSt X.K W call (.dput o i e)) := by
  refine PS.imp (ps_dput (by have := ok.un; omega) (e_of ok (W := W) h2).pe (e_of ok (W := W) h3).pe (e_of ok (W := W) h4).pe swSub0) fun D σ H ⟨ρ, h, L, rs, hr, q⟩ => ⟨ρ, h, L, rs, hr, ?_⟩
  refine (outS.toS rs q).imp fun v h1 H1 L1 r1 x1 q1 => ?_
  intro z hz
  refine ⟨ρ, h1, L1, rs.mono x1, r1, ?_⟩
  refine (outS.toS (rs.mono x1) q1).imp fun o h2 H2 L2 r2 x2 q2 => ?_
  intro zo hzo
  have rs2 := (rs.mono x1).mono x2
  refine ⟨ρ, h2, L2, rs2, r2, ?_⟩
  refine (outS.toS rs2 q2).imp fun i h3 H3 L3 r3 x3 q3 => ?_
  intro zi hzi
  have rs3 := rs2.mono x3
  cases ep : dputV o i v h3 with
  | no => rw [ep] at q3; exact q3.elim
  | ex c as h' => unfold dputV at ep; split at ep <;> (try split at ep) <;> cases ep
  | ok u h4 =>
    rw [ep] at q3
    obtain ⟨n, a, kvs, k, _, e2, e3, e4, e5, _, r4, x4⟩ := put_at r3 (RV.mono x3 _ _ hzo) hzi (RV.mono x3 _ _ (RV.mono x2 _ _ hz)) ep
    exact ⟨a, _, e2, .inl ⟨kvs, k, e4, e3, e5, rfl⟩, (outS.from x4 q3).hereN r4 (rs3.mono x4)⟩
theorem ss_ddel (ok : XOk G N call none sc X W) {o i : E} {x y : Expr} {p pos : Pos} (h2 : okE G N o none sc (.e x) = true) (h3 : okE G N i none sc (.e y) = true) :
    PS X (.Delete [.Subscript x y p] pos) (tSt X.K W call (.ddel o i)) := by
  refine PS.imp (ps_ddel (e_of ok (W := W) h2).pe (e_of ok (W := W) h3).pe) fun D σ H ⟨ρ, h, L, rs, hr, q⟩ => ⟨ρ, h, L, rs, hr, ?_⟩
  refine (outS.toS rs q).imp fun o h2 H2 L2 r2 x2 q2 => ?_
  intro zo hzo
  have rs2 := rs.mono x2
  refine ⟨ρ, h2, L2, rs2, r2, ?_⟩
  refine (outS.toS rs2 q2).imp fun i h3 H3 L3 r3 x3 q3 => ?_
  intro zi hzi
  have rs3 := rs2.mono x3
  cases ep : ddelV o i h3 with
  | no => rw [ep] at q3; exact q3.elim
  | ex c as h' => unfold ddelV at ep; split at ep <;> (try split at ep) <;> cases ep
  | ok u h4 =>
    rw [ep] at q3
    obtain ⟨n, a, kvs, k, _, e2, e3, e4, e5, r4, x4⟩ := del_at r3 (RV.mono x3 _ _ hzo) hzi ep
    exact ⟨a, kvs, k, e2, e4, e3, e5, (outS.from x4 q3).hereN r4 (rs3.mono x4)⟩
def lastAt (t : Nat) (ps : List Val) (i : Nat) (ρ : Rho) : Rho := setLast t (ps.take i) ρ
theorem ss_dcp (ok : XOk G N call none sc X W) {t d g : Nat} {x y z : Str} {p p1 p2 py py1 pz sp sp2 pos pos2 : Pos} (ht : okN N none sc t (.Name x p) = true) (hd : N[d]? = some y) (vd : visB sc y = true) (od : (!oddN y) = true)
    (hg : N[g]? = some z) (vg : visB sc z = true) (og : (!oddN z) = true) (vt : visB sc x = true) (ot : (!oddN x) = true) :
    PS X (.For (.Name x p) (.Name y py) [.Assign [.Subscript (.Name z pz) (.Name x p1) sp] (.Subscript (.Name y py1) (.Name x p2) sp2) pos2] [] pos) (tSt X.K W call (.dcp t d g)) := by
  have un : X.A.units + 1 < cLine := by have := ok.un; omega
  have htN : X.N[t]? = some x := by
    have h' : (decide (N[t]? = some x) && stB none sc x) = true := ht
    simp only [Bool.and_eq_true, decide_eq_true_eq] at h'
    rw [ok.names]; exact h'.1
  have pd : ∀ {p : Pos}, PE X (.Name y p) (tVar d) := fun {p} => pe_var (by rw [ok.names]; exact hd) (svis ok vd) (odd_of od).1 (odd_of od).2.1
  have pgN : ∀ {p : Pos}, PE X (.Name z p) (tVar g) := fun {p} => pe_var (by rw [ok.names]; exact hg) (svis ok vg) (odd_of og).1 (odd_of og).2.1
  have pt : ∀ {p : Pos}, PE X (.Name x p) (tVar t) := fun {p} => pe_var htN (svis ok vt) (odd_of ot).1 (odd_of ot).2.1
  have body := pss_one (ps_dput un pgN pt (pe_dget (pos := sp2) un (pd (p := py1)) (pt (p := p2)) (fun _ _ => rfl)) (pos := pos2) (pos' := sp) (swSub0 (a := .Name z pz) (b := .Name x p1)))
  refine PS.imp (ps_lock (ps_for ok.hp ok.calm (pi_keys (pd (p := py))) (pg_n ok ht) body)) fun D σ H ⟨ρ, h, L, rs, hr, q⟩ => ?_
  have q : outS X.K W D H L (match (ρ[d]?).join, (ρ[g]?).join with
      | some (.loc n), some (.loc m) => if n = m ∨ d = t ∨ g = t ∨ ρ.length ≤ t then .no else match h[n]?, h[m]? with
        | some (.dct ps), some (.dct gs) => match dCopy ps ps gs with
          | some ls => .nx (setLast t ps ρ) (h.set m (.dct ls))
          | Option.none => .no
        | _, _ => .no
      | _, _ => .no) := q
  have slot : ∀ {i : Nat} {v : Val}, (ρ[i]?).join = some v → ρ[i]? = some (some v) := fun {i v} e1 => by
    cases e : ρ[i]? with
    | none => rw [e] at e1; cases e1
    | some w => rw [e] at e1; have e1' : w = some v := e1; rw [e1']
  split at q
  · rename_i n m en em
    split at q
    · exact q.elim
    · rename_i hne
      simp only [not_or] at hne
      obtain ⟨nm, dt, gt, tl⟩ := hne
      split at q
      · rename_i ps gs hn hm
        split at q
        · rename_i ls hls
          obtain ⟨zd, ed, hzd⟩ := rs.at_ _ _ (slot en)
          obtain ⟨zg, eg, hzg⟩ := rs.at_ _ _ (slot em)
          obtain ⟨a, ea, rfl⟩ := hzd.loc_of
          obtain ⟨b, eb, rfl⟩ := hzg.loc_of
          obtain ⟨kvs, ha, hda⟩ := hr.at hn ea
          obtain ⟨kgs, hb, hdb⟩ := hr.at hm eb
          have hab : a ≠ b := hr.ne_of ea eb nm
          have lenk := hda.length
          refine ⟨a, .dK kvs, ha, True.intro, fun ob => ⟨_, ed, a, ob, rfl, .inl ⟨kvs, upd_same, ?_⟩⟩⟩
          refine ⟨fun i mm σ' H' => i + mm = ps.length ∧ σ'[d]? = some (some (V.ref a)) ∧ σ'[g]? = some (some (V.ref b)) ∧ ∃ gs' kgs', dCopy ps (ps.drop i) gs' = some ls ∧ H' = upd (upd H b (.dK kgs')) a (.frz ob (.dK kvs)) ∧
              HR X.K (upd H b (.dK kgs')) L (h.set m (.dct gs')) ∧ Ext X.K H L (upd H b (.dK kgs')) L ∧ RD X.K (upd H b (.dK kgs')) L gs' kgs' ∧ Slots X.K (upd H b (.dK kgs')) L (lastAt t ps i ρ) σ',
            ⟨ps.length, by omega, ed, eg, gs, kgs, by simpa using hls, ?_, ?_, ?_, ?_, ?_⟩, ?_⟩
          · congr 1
            funext c
            by_cases e : c = b
            · subst e; rw [upd_same]; exact hb
            · rw [upd_ne e]
          · exact (hr.writeD eb hb hdb).1
          · exact (hr.writeD eb hb hdb).2
          · exact RD.mono (hr.writeD eb hb hdb).2 hdb
          · exact rs.mono (hr.writeD eb hb hdb).2
          · rintro i mm σ' H' ⟨eim, sd, sg, gs', kgs', hcp, rfl, hr', x', hd', rs'⟩
            have ha' : (upd H b (.dK kgs')) a = some (.dK kvs) := by rw [upd_ne hab]; exact ha
            have hub : upd (upd (upd H b (.dK kgs')) a (.frz ob (.dK kvs))) a (.dK kvs) = upd H b (.dK kgs') := by
              rw [upd_upd]
              funext c
              by_cases e : c = a
              · subst e; rw [upd_same, ha']
              · rw [upd_ne e]
            cases mm with
            | zero =>
              have ei : i = ps.length := by omega
              subst ei
              refine .inl ⟨⟨upd_same, by rw [lenk]; exact Nat.le_refl _⟩, upd_same, ?_⟩
              rw [hub]
              rw [List.drop_length] at hcp
              cases hcp
              refine q σ' _ L ?_ hr' x'
              have : lastAt t ps ps.length ρ = setLast t ps ρ := by unfold lastAt; rw [List.take_length]
              rw [← this]; exact rs'
            | succ mm =>
              have hi : i < kvs.length := by rw [← lenk]; omega
              refine .inr ⟨⟨upd_same, hi⟩, _, fun σ2 H2 hn => ⟨mm, Nat.lt_succ_self mm, hn⟩, ?_⟩
              rintro kx H2 ⟨rfl, kk, vv, hkv, rfl⟩
              obtain ⟨k0, v0, hp0, hk0, hrk, hrv⟩ := (RD.mono x' hda).at hkv
              obtain ⟨y0, hy0⟩ := valV_mem hkv
              have ht' : t < σ'.length := by
                rw [← rs'.len]
                have : (lastAt t ps i ρ).length = ρ.length := by
                  unfold lastAt setLast
                  split
                  · rw [List.length_set]
                  · rfl
                omega
              rw [drop_cons hp0] at hcp
              unfold dCopy at hcp
              split at hcp
              · rename_i v1 ev1
                split at hcp
                · rename_i c
                  have c' : gs'.length < sizeLine := of_decide_eq_true c
                  obtain ⟨x1, ex1, hx1⟩ := ((RD.mono x' hda).get hk0).1 v1 ev1
                  have sd2 : (σ'.set t (some (kV kk)))[d]? = some (some (V.ref a)) := by rw [List.getElem?_set_ne (Ne.symm dt)]; exact sd
                  have sg2 : (σ'.set t (some (kV kk)))[g]? = some (some (V.ref b)) := by rw [List.getElem?_set_ne (Ne.symm gt)]; exact sg
                  have st2 : (σ'.set t (some (kV kk)))[t]? = some (some (kV kk)) := List.getElem?_set_self ht'
                  have hA : (upd (upd H b (.dK kgs')) a (.frz ob (.dK kvs))) a = some (.frz ob (.dK kvs)) := upd_same
                  have hB : (upd (upd H b (.dK kgs')) a (.frz ob (.dK kvs))) b = some (.dK kgs') := by rw [upd_ne (Ne.symm hab), upd_same]
                  have w := hr'.writeD (ps := dPut gs' k0 v1) eb (upd_same (H := H) (a := b) (o := .dK kgs')) (hd'.put hk0 hrk hx1)
                  have eH : upd (upd H b (.dK kgs')) b (.dK (putK kgs' kk x1)) = upd H b (.dK (putK kgs' kk x1)) := upd_upd
                  rw [eH, List.set_set] at w
                  refine ⟨.ref a, sd2, kV kk, st2, a, x1, rfl, .inl ⟨kvs, kk, .inr ⟨ob, hA⟩, rfl, ex1.symm⟩, .ref b, sg2, kV kk, st2, b, _, rfl, .inl ⟨kgs', kk, hB, rfl, by rw [← hd'.length]; exact c', rfl⟩, ?_⟩
                  have w2 : Ext X.K H L (upd H b (.dK (putK kgs' kk x1))) L := x'.trans w.2
                  refine ⟨by omega, sd2, sg2, dPut gs' k0 v1, putK kgs' kk x1, hcp, ?_, w.1, w2, RD.mono w.2 (hd'.put hk0 hrk hx1), ?_⟩
                  · rw [upd_comm hab, upd_upd]
                  · have e1 : lastAt t ps (i + 1) ρ = (lastAt t ps i ρ).set t (some k0) := by
                      have e2 : (ps.take (i + 1)).getLast? = some (.tup [k0, v0]) := by
                        rw [List.take_add_one, hp0]
                        simp
                      have e3 : lastAt t ps (i + 1) ρ = ρ.set t (some k0) := by unfold lastAt setLast; rw [e2]
                      rw [e3]
                      unfold lastAt setLast
                      split
                      · rw [List.set_set]
                      · rfl
                    rw [e1]
                    exact (rs'.mono w.2).set t (RV.mono w.2 _ _ hrk)
                · cases hcp
              · cases hcp
        · exact q.elim
      · exact q.elim
  · exact q.elim
end
end Gu
end

section
set_option Elab.async false
set_option linter.all false
set_option maxRecDepth 100000
set_option maxHeartbeats 1000000
/-! Gx5: except suites: statements; try. -/
namespace Gu
open PySem PySem.Spec PyProof.Rows L2
section
variable {G : GT} {N : List Str} {call : CallT} {X : Cx} {W : L2.St → XW} {sc : Scope} {a : Addr} {oe : Obj} {cls : Value} {d : Option Addr} {pn : List (Addr × Obj)} {c : Nat} {p : XC} {as : List Val} {i : Nat} {nm : Str}
/-- a suite -/
theorem eh_s (ok : XOk G N call none sc X W) (e : InH X G a oe cls d p) (hc : G.xcs[c]? = some p) (hi : N[i]? = some nm) (hv : visB sc nm = true) (ho : (!oddN nm) = true) : ∀ {t : EhS} {ss : List Stmt}, okEhS G sc nm p.fld t ss = true →
    PSs (X.suite a ((a, oe) :: pn)) ss (fun D σ H => InS X.K p d as i a σ H ∧ ∃ h L, HR X.K H L h ∧ match evEhS c as h t with
      | some (some (v, h')) => ∀ H' L', HR X.K H' L' h' → Ext X.K H L H' L' → ∀ z, RV X.K H' L' v z → D.rt z H'
      | some none => D.nx σ H
      | none => False) := by
  intro t
  induction t with
  | nil =>
    intro ss h
    unfold okEhS at h
    split at h
    all_goals first | contradiction | (cases h; done) | skip
    · exact PSs.imp pss_nil fun D σ H ⟨_, h, L, _, q⟩ => q
    · exact PSs.imp (pss_cons ps_pass pss_nil) fun D σ H ⟨_, h, L, _, q⟩ => q
  | ret v =>
    intro ss h
    unfold okEhS at h
    split at h
    all_goals first | contradiction | (cases h; done) | skip
    rename_i he
    cases he
    refine PSs.imp (pss_one (ps_ret (eh_v (as := as) (i := i) ok e hi hv ho h))) fun D σ H ⟨q1, h, L, hr, q⟩ => ⟨q1, h, L, ?_⟩
    unfold evEhS at q
    cases ev : evEhV as h v with
    | none => rw [ev] at q; exact q.elim
    | some r =>
      rw [ev] at q
      exact ⟨_, _, hr, rfl, q⟩
  | ite t u r ih1 ih2 =>
    intro ss h
    unfold okEhS at h
    split at h
    all_goals first | contradiction | (cases h; done) | skip
    rename_i ce xs pos rest he
    cases he
    simp only [Bool.and_eq_true] at h
    have key : ∀ b, evEhT c as t = some b → PSs (X.suite a ((a, oe) :: pn)) (.If ce xs [] pos :: rest) _ := fun b eb => pss_cons (ps_if (eh_t (as := as) (i := i) ok e hc hi hv ho h.1.1 eb).1 (ih1 h.1.2) pss_nil) (ih2 h.2)
    cases eb : evEhT c as t with
    | none =>
      refine ⟨fun pins s σ H D I ⟨_, h, L, _, q⟩ => ?_⟩
      unfold evEhS at q
      rw [eb] at q
      exact q.elim
    | some b =>
      refine PSs.imp (key b eb) fun D σ H ⟨q1, h, L, hr, q⟩ => ⟨q1, ?_⟩
      unfold evEhS at q
      rw [eb] at q
      cases b with
      | false => exact ⟨q1, h, L, hr, q⟩
      | true =>
        refine ⟨q1, h, L, hr, ?_⟩
        have q' : (match (match evEhS c as h u with | some none => evEhS c as h r | x => x) with
          | some (some (v, h')) => ∀ H' L', HR X.K H' L' h' → Ext X.K H L H' L' → ∀ z, RV X.K H' L' v z → D.rt z H'
          | some none => D.nx σ H
          | none => False) := q
        cases e3 : evEhS c as h u with
        | none => rw [e3] at q'; exact q'
        | some o =>
          rw [e3] at q'
          cases o with
          | none => exact ⟨q1, h, L, hr, q'⟩
          | some vh => exact q'

/-! ### try with named clauses -/
abbrev HSt := Addr → Value → Option Addr → TS
/-- what the clauses wish of an exception that the body lets out -/
def wHs (K : PySem.W.Frag) (Wo : WX) (D : Ends) : List (Value × Nat × HSt) → WX
  | [] => Wo
  | (cv, j, ts) :: r => fun cls d σ H => ∃ b, PySem.W.exmOne K cls cv = some b ∧
      (b = true → ∀ ea, H ea = none → ts ea cls d { nx := fun σ' H' => D.nx (σ'.set j none) H', rt := D.rt, bk := fun σ' H' => D.bk (σ'.set j none) H', ct := fun σ' H' => D.ct (σ'.set j none) H' } (σ.set j (some (.ref ea))) H) ∧ (b = false → wHs K Wo D r cls d σ H)
inductive HsOk (X : Cx) : List ExceptHandler → List (Value × Nat × HSt) → Prop
  | nil : HsOk X [] []
  | cons {x n : Str} {cv : Value} {j : Nat} {ts : HSt} {s0 : Stmt} {sr : List Stmt} {q1 q2 : Pos} {hds : List ExceptHandler} {l : List (Value × Nat × HSt)} (hc : Names X x cv) (hj : X.N[j]? = some n) (hl : X.env.kindOf n = some .local)
      (hsu : ∀ (ea : Addr) (oe : Obj) (cls : Value) (d : Option Addr) (pn : List (Addr × Obj)), Zc cls d oe → (∃ vs, oe.data = .fields vs) → PSs (X.suite ea ((ea, oe) :: pn)) (s0 :: sr) (ts ea cls d)) (r : HsOk X hds l) :
      HsOk X (.ExceptHandler (some (.Name x q1)) (some n) (s0 :: sr) q2 :: hds) ((cv, j, ts) :: l)
theorem ps_try_hs {body : List Stmt} {h0 : ExceptHandler} {hds : List ExceptHandler} {l : List (Value × Nat × HSt)} {pos : Pos} {tb : WX → TS} {Wo : WX} (hstk : X.stack = X.env :: X.outer) (hfrm : X.env.frame = some X.env.locals) (nodup : X.N.Nodup) (tk : Takes X Wo)
    (hb : ∀ (Wb : WX) (pn : List (Addr × Obj)) (xe : Value → Shared → Prop), Takes (X.tr pn xe) Wb → PassesOwn (model X.prog X.w) X.A X.env xe → PSs (X.tr pn xe) body (tb Wb)) (hh : HsOk X (h0 :: hds) l) :
    PS X (.Try body (h0 :: hds) [] [] pos) (fun D σ H => tb (wHs X.K Wo D l) D σ H) := by
  refine ⟨fun pins s σ H D J0 h => wpAny_Try_except ?_⟩
  have xok := J0.ok
  have frs0 : X.A.frames = some (X.env :: X.outer) := by rw [xok.frames, hstk]
  refine wpAny_mono ((hb (wHs X.K Wo D l) (X.pn ++ pins) (fun e z1 => wpAny (model X.prog X.w) X.A (noteFrame e X.env) (fun _ z2 => wpAny (model X.prog X.w) X.A (setFlight e none) (fun _ z3 =>
    wpAny (model X.prog X.w) X.A (handleBy e X.env (h0 :: hds)) (SP X pins D) X.xe z3) X.xe z2) X.xe z1) (fun u s' xx => ?_) PassesOwn.looking).run [] s σ H D (J0.toTry _) h) (fun f s1 hsp => ?_) (fun e z1 he => he)
  · obtain ⟨ea, B, sI, pins', σ', H', cls, d, rfl, J1, nb, up, sky, na, os, ag, w⟩ := xx
    have J : Inv X pins σ' H' sI := J1.ofTry xok
    have sky1 : Sky B (X.env :: X.outer) ea (Zc cls d) X.env.locals s'.heap := by rw [← hstk]; exact sky
    show wpAny (model X.prog X.w) X.A (noteFrame (.ref ea) X.env) _ _ _
    refine Sky.land Zc.steady frs0 hfrm sky1 fun h3 fl3 up3 => ?_
    have J3 : Inv X pins σ' H' { s' with heap := h3 } := J.landed nb fl3.1 (up.trans up3) os ag
    obtain ⟨o3, vs3, he3, hz3, hd3⟩ := fl3.there
    have nofr : ea ∉ frs (X.env :: X.outer) := fun hm => by
      obtain ⟨_, o', e', hnf⟩ := fl3.2.2.1.mem hm
      rw [he3] at e'
      cases e'
      exact hnf _ hd3
    have nL : ea ≠ X.env.locals := fun z => nofr (List.mem_filterMap.mpr ⟨X.env, List.mem_cons_self, by rw [hfrm, z]⟩)
    have nF : ea ∉ X.fs := fun hm => by
      obtain ⟨en, hen, q⟩ := List.mem_filterMap.mp hm
      exact nofr (List.mem_filterMap.mpr ⟨en, List.mem_cons_of_mem _ hen, q⟩)
    have S3 := J3.suite he3 hd3 na nL nF
    have go : ∀ {hs2 : List ExceptHandler} {l2 : List (Value × Nat × HSt)}, HsOk X hs2 l2 → wHs X.K Wo D l2 cls d σ' H' → wpAny (model X.prog X.w) X.A (handleBy (.ref ea) X.env hs2) (SP X pins D) X.xe { s' with heap := h3 } := by
      intro hs2 l2 hk
      induction hk with
      | nil =>
        intro w
        refine wpAny_handleBy_nil ?_
        obtain ⟨_, _, _, ob, ws, T, oT, _, e1, _, e2, e3, _⟩ := id fl3
        unfold PySem.passOn
        refine wpAny_bind (wpAny_field e1 e2 e3 ?_)
        rw [if_neg (by simp)]
        have fin : wpAny (model X.prog X.w) X.A (setFlight (.ref ea) X.env.frame) (fun _ z4 => wpAny (model X.prog X.w) X.A (throw (.ref ea) : Sem Flow) (SP X pins D) X.xe z4) X.xe { s' with heap := h3 } := by
          rw [hfrm]
          refine HandSPX.setFlight_upZ fl3 fun h4 held4 up4 => wpAny_throw (tk _ _ ⟨ea, B, sI, pins, σ', H', cls, d, rfl, J, nb, (up.trans up3).trans up4, .inr (.inr (by rw [hstk]; exact held4)), na, os, ag, w⟩)
        first
          | exact wpAny_bind (wpAny_pure (wpAny_bind fin))
          | exact wpAny_bind fin
      | @cons x n cv j ts s0 sr q1 q2 hds2 l3 hc hj hl hsu r ih =>
        intro w
        obtain ⟨b, hb1, hyes, hno⟩ := w
        refine wpAny_handleBy_cons (codeAny_handlers_test ?_) (by intro q; cases q)
        have LT : PySem.W.Looks (model X.prog X.w) h3 (typeOf (.ref ea)) cls := fun A Q E z k q => wpAny_typeOf_ref (k _ _ he3) (by rw [hz3.1]; exact q)
        have LM := PySem.W.exm_one (M := model X.prog X.w) (J3.kIn) LT hb1
        have test : ∀ {Q E : Value → Shared → Prop}, Q cv { s' with heap := h3 } → wpAny (model X.prog X.w) (X.A.mark (some (.ref ea))) (eval (.Name x q1) X.env) Q E { s' with heap := h3 } := fun {Q E} q => by
          obtain ⟨hg, hdbg, hm | ⟨hm, hv, hnn⟩⟩ := hc
          · exact ld_glob (X := X.suite ea ((ea, o3) :: (X.pn ++ pins))) S3 hg hm q hdbg
          · exact ld_blt (X := X.suite ea ((ea, o3) :: (X.pn ++ pins))) S3 hg hm hv q hnn hdbg
        refine test (LM.here ?_)
        cases b with
        | true =>
          refine codeAny_handlers_suite_as (HandSPX.lands_againZ fl3 fun h4 fl4 up4 => ?_)
          have J4 : Inv X pins σ' H' { s' with heap := h4 } := J.landed nb fl4.1 ((up.trans up3).trans up4) os ag
          obtain ⟨o4, vs4, he4, hz4, hd4⟩ := fl4.there
          have S4 := J4.suite he4 hd4 na nL nF
          refine store_ok (X := X.suite ea ((ea, o4) :: (X.pn ++ pins))) (v := .ref ea) S4 nodup hj (.inl hl) rfl (fun s5 S5 => ?_) (.inr hl)
          refine wpAny_mono ((hsu ea o4 cls d (X.pn ++ pins) hz4 ⟨_, hd4⟩).run [] s5 _ H' _ S5 (hyes rfl ea na)) (fun f s6 hsp => ?_) (fun _ _ z => False.elim z)
          have cleared : ∀ {σ6 : L2.St} {H6 : Hp} {Q : Shared → Prop}, Inv (X.suite ea ((ea, o4) :: (X.pn ++ pins))) [] σ6 H6 s6 → (∀ s7, Inv X pins (σ6.set j none) H6 s7 → Q s7) →
              wpAny (model X.prog X.w) X.A (do bindName X.env n .none; unbindBehindTheSuite X.env n q2) (fun _ s7 => Q s7) X.xe s6 := fun {σ6 H6 Q} S6 hq => gone_ok (S6.unsuite xok) nodup hj hl hq
          cases f with
          | ret u =>
            obtain ⟨v6, σ6, H6, S6, r6, q6⟩ := hsp
            exact cleared S6 fun s7 J7 => ⟨_, _, _, J7, r6, q6⟩
          | _ =>
            obtain ⟨σ6, H6, S6, q6⟩ := hsp
            exact cleared S6 fun s7 J7 => ⟨_, _, J7, q6⟩
        | false =>
          show wpAny _ X.A (handleBy (.ref ea) X.env hds2) _ _ _
          exact ih (hno rfl)
    exact go hh w
  · cases f with
    | next =>
      obtain ⟨σ', H', J', q⟩ := hsp
      exact wpAny_execs_nil ⟨σ', H', J'.ofTry xok, q⟩
    | brk =>
      obtain ⟨σ', H', J', q⟩ := hsp
      exact ⟨σ', H', J'.ofTry xok, q⟩
    | cont =>
      obtain ⟨σ', H', J', q⟩ := hsp
      exact ⟨σ', H', J'.ofTry xok, q⟩
    | ret u =>
      obtain ⟨v, σ', H', J', r, q⟩ := hsp
      exact ⟨v, σ', H', J'.ofTry xok, r, q⟩

/-! ### the small language's raise and try -/
def tsOf (K : PySem.W.Frag) (G : GT) (x : Str) (n : Nat) (s : EhS) : HSt := fun ea cls d D σ H => ∃ c p as, G.xcs[c]? = some p ∧ cls = .ref (p.at_ K) ∧ p.anc.contains x = true ∧ InS K p d as n ea σ H ∧ ∃ h L, HR K H L h ∧ match evEhS c as h s with
      | some (some (v, h')) => ∀ H' L', HR K H' L' h' → Ext K H L H' L' → ∀ z, RV K H' L' v z → D.rt z H'
      | some none => D.nx σ H
      | none => False
def hsL (K : PySem.W.Frag) (G : GT) : List (List Nat × Nat × EhS) → List ExceptHandler → List (Value × Nat × HSt)
  | (cs, n, s) :: r, .ExceptHandler (some (.Name x _)) _ _ _ :: hs => (.ref (He.ga K x), n, tsOf K G x n s) :: hsL K G r hs
  | _, _ => []
theorem Slots.gone {K : PySem.W.Frag} {H : Hp} {L : List Addr} {ρ : Rho} {σ : L2.St} (r : Slots K H L ρ σ) (j : Nat) (x : Option V) : Slots K H L (ρ.set j none) (σ.set j x) := ⟨by simp [r.len], fun k v e => by
  by_cases hk : j = k
  · subst hk
    by_cases hj : j < ρ.length
    · rw [List.getElem?_set_self hj] at e; cases e
    · rw [List.getElem?_eq_none (by simpa using hj)] at e; cases e
  · rw [List.getElem?_set_ne hk] at e ⊢
    exact r.at_ k v e⟩
theorem cls_in {x : Str} (h : isCls G x = true) : ∃ q ∈ G.xcs, q.name = x := by
  unfold isCls at h
  obtain ⟨q, hq, hn⟩ := List.any_eq_true.mp h
  exact ⟨q, hq, eq_of_beq hn⟩
theorem hs_ok (ok : XOk G N call none sc X W) : ∀ {hs : List (List Nat × Nat × EhS)} {hds : List ExceptHandler}, okHs G N sc hs hds = true → HsOk X hds (hsL X.K G hs hds)
  | [], [], _ => .nil
  | (cs, n, s) :: r, hd :: hds, h => by
    unfold okHs at h
    split at h
    all_goals first | contradiction | (cases h; done) | skip
    rename_i c1 n1 s1 r1 x q1 nm b bs q2 hs1 he1 he2
    cases he1
    cases he2
    simp only [Bool.and_eq_true, decide_eq_true_eq, List.all_eq_true, Bool.or_eq_true, Bool.not_eq_true'] at h
    obtain ⟨⟨⟨⟨⟨⟨⟨⟨h1, h2⟩, h3⟩, h4⟩, h5⟩, h6⟩, h7⟩, h8⟩, h9⟩ := h
    obtain ⟨q, hq, hn⟩ := cls_in h6
    obtain ⟨o1, _, _⟩ := odd_of (x := x) (by rw [h5]; rfl)
    have hv : visB sc nm = true := by unfold visB; rw [h2]
    refine .cons (j := n) ⟨sgl ok h4, o1, .inl (by rw [← hn]; exact (ok.xs.cl q hq).1)⟩ (by rw [ok.names]; exact h1) (by show X.env.scope.names.lookup nm = _; rw [ok.sc]; exact h2) (fun ea oe cls d pn hz hf => ?_) (hs_ok ok h9)
    refine ⟨fun pins s' σ H D I ⟨c, p, as, e1, e2, e3, e4, e5⟩ => ?_⟩
    have hp : p ∈ G.xcs := List.mem_of_getElem? e1
    have k : okEhS G sc nm p.fld s (b :: bs) = true := by
      rcases h8 p hp with z | z
      · rw [e3] at z; cases z
      · exact z
    exact (eh_s (as := as) (i := n) ok ⟨hz, hf, hp, e2⟩ e1 h1 hv (by rw [h3]; rfl) k).run pins s' σ H D I ⟨e4, e5⟩
  | [], _ :: _, h => by unfold okHs at h; cases h
  | _ :: _, [], h => by unfold okHs at h; cases h
theorem wHs_of (ok : XOk G N call none sc X W) {D : Ends} {H : Hp} {L : List Addr} {h : MH} {ρ : Rho} {σ : L2.St} (xr : XR X.K G c as cls d H) (hr : HR X.K H L h) (sl : Slots X.K H L ρ σ) :
    ∀ {hs : List (List Nat × Nat × EhS)} {hds : List ExceptHandler}, okHs G N sc hs hds = true → outS X.K W D H L (runHs c as ρ h hs) → wHs X.K (wxOf X.K G W) D (hsL X.K G hs hds) cls d σ H
  | [], [], _, q => ⟨c, as, h, L, xr, hr, q σ H L sl hr .refl⟩
  | (cs, n, s) :: r, hd :: hds, k, q => by
    have k0 := k
    unfold okHs at k
    split at k
    all_goals first | contradiction | (cases k; done) | skip
    rename_i c1 n1 s1 r1 x q1 nm b bs q2 hs1 he1 he2
    cases he1
    cases he2
    simp only [Bool.and_eq_true, decide_eq_true_eq, List.all_eq_true, Bool.or_eq_true, Bool.not_eq_true'] at k
    obtain ⟨⟨⟨⟨⟨⟨⟨⟨h1, h2⟩, h3⟩, h4⟩, h5⟩, h6⟩, h7⟩, h8⟩, h9⟩ := k
    subst h7
    obtain ⟨q', hq, hn⟩ := cls_in h6
    obtain ⟨p, e1, e2, e3⟩ := id xr
    have hp : p ∈ G.xcs := List.mem_of_getElem? e1
    have ec := cs_mem (x := x) e1
    refine ⟨p.anc.contains x, by rw [e2, ← hn]; exact ok.xs.exm p hp q' hq, fun hb ea hea => ?_, fun hb => ?_⟩
    · have q2 : outS X.K W D H L (if (csOf G x).contains c = true then (if ρ.length ≤ n then .no else match evEhS c as h s with
      | some (some (v, h')) => .rt v h'
      | some none => .nx (ρ.set n none) h
      | none => .no) else runHs c as ρ h r) := q
      rw [if_pos (ec.trans hb)] at q2
      split at q2
      · exact q2.elim
      · rename_i hlt
        refine ⟨c, p, as, e1, e2, hb, ⟨List.getElem?_set_self (by rw [← sl.len]; omega), e3⟩, h, L, hr, ?_⟩
        cases ev : evEhS c as h s with
        | none => rw [ev] at q2; exact q2
        | some o =>
          rw [ev] at q2
          cases o with
          | none =>
            show D.nx ((σ.set n (some (.ref ea))).set n none) H
            rw [List.set_set]
            exact q2 _ H L (sl.gone n none) hr .refl
          | some vh => exact fun H' L' r' x' z hz => q2 z H' L' r' x' hz
    · have q2 : outS X.K W D H L (if (csOf G x).contains c = true then (if ρ.length ≤ n then .no else match evEhS c as h s with
      | some (some (v, h')) => .rt v h'
      | some none => .nx (ρ.set n none) h
      | none => .no) else runHs c as ρ h r) := q
      rw [if_neg (by rw [ec, hb]; exact Bool.false_ne_true)] at q2
      exact wHs_of ok xr hr sl h9 q2
  | [], _ :: _, h, _ => by unfold okHs at h; cases h
  | _ :: _, [], h, _ => by unfold okHs at h; cases h
theorem XOk.tr (ok : XOk G N call none sc X W) {pn : List (Addr × Obj)} {xe : Value → Shared → Prop} {Wb : L2.St → XW} (hp : PassesOwn (model X.prog X.w) X.A X.env xe) (tk : Takes (X.tr pn xe) (wxOf X.K G Wb)) : XOk G N call none sc (X.tr pn xe) Wb :=
  ⟨ok.names, ok.nd, ok.calm, ok.sc, ok.fn, ok.un, hp, ok.unb, ok.glb, ok.len, tk, ok.dp, ok.xs, ok.os, ok.fns⟩
theorem ss_try (ok : XOk G N call none sc X W) {b : S} {hs : List (List Nat × Nat × EhS)} {body : List Stmt} {h0 : ExceptHandler} {hds : List ExceptHandler} {pos : Pos} (hstk : X.stack = X.env :: X.outer) (hfrm : X.env.frame = some X.env.locals)
    (hb : ∀ (pn : List (Addr × Obj)) (xe : Value → Shared → Prop) (Wb : L2.St → XW), XOk G N call none sc (X.tr pn xe) Wb → PSs (X.tr pn xe) body (tSt X.K Wb call b)) (hh : okHs G N sc hs (h0 :: hds) = true) :
    PS X (.Try body (h0 :: hds) [] [] pos) (tSt X.K W call (.try_ b hs)) := by
  refine PS.imp (ps_try_hs (tb := fun WX D σ H => ∃ Wb : L2.St → XW, (∀ cls d σ H, wxOf X.K G Wb cls d σ H → WX cls d σ H) ∧ tSt X.K Wb call b D σ H) hstk hfrm (by rw [ok.names]; exact ok.nd) ok.tk
    (fun WX pn xe tk hp => ⟨fun pins s σ H D I ⟨Wb, hW, q⟩ => (hb pn xe Wb (ok.tr hp (Takes.imp tk hW))).run pins s σ H D I q⟩) (hs_ok ok hh)) fun D σ H ⟨ρ, h, L, rs, hr, q⟩ => ?_
  refine ⟨fun σ' c as h' H' L' => ∃ ρ', Slots X.K H' L' ρ' σ' ∧ outS X.K W D H' L' (runHs c as ρ' h' hs), fun cls d σ' H' ⟨c, as, h', L', xr, hr', ρ', sl', q'⟩ => wHs_of ok xr hr' sl' hh q', ρ, h, L, rs, hr, ?_⟩
  have q : outS X.K W D H L (tryR hs (evS call b ρ h)) := q
  cases e : evS call b ρ h with
  | no => rw [e] at q; exact q
  | nx ρ' h' => rw [e] at q; exact q
  | rt v h' => rw [e] at q; exact q
  | bk ρ' h' => rw [e] at q; exact q
  | ct ρ' h' => rw [e] at q; exact q
  | ex c as ρ' h' =>
    rw [e] at q
    have q2 : outS X.K W D H L (runHs c as ρ' h' hs) := q
    exact fun σ' H' L' sl r' x' => ⟨ρ', sl, outS.from x' q2⟩
theorem ss_raise (ok : XOk G N call none sc X W) {es : E} {st : Stmt} (h : okB G N sc (.raise c es) (.one st) = true) : PS X st (tSt X.K W call (.raise c es)) := by
  unfold okB at h
  split at h
  all_goals first | contradiction | (cases h; done) | skip
  rename_i c1 es1 x px ae pos pos2 he1 he2
  cases he1
  cases he2
  cases eg : G.xcs[c]? with
  | none => rw [eg] at h; cases h
  | some p =>
    rw [eg] at h
    simp only [Bool.and_eq_true, decide_eq_true_eq, Bool.or_eq_true] at h
    obtain ⟨⟨⟨⟨rfl, h1⟩, h2⟩, h3⟩, h4⟩ := h
    have hp : p ∈ G.xcs := List.mem_of_getElem? eg
    obtain ⟨gC, o1⟩ := ok.xs.cl p hp
    rcases h4 with ⟨k1, h4⟩ | ⟨⟨k2, h4⟩, h5⟩
    · split at h4
      · obtain ⟨m1, m2, m3, m4⟩ := ok.xs.mk1 p hp k1
        refine PS.imp (ps_raise ok.calm ok.tk (pmk_own PySem.F.excBase_ValueError m1 gC m2 (raises_own m3 m4) (sgl ok h1) o1)) fun D σ H ⟨ρ, h, L, rs, hr, q⟩ => ?_
        exact ⟨c, [], h, L, ⟨p, eg, rfl, .inl ⟨k1, rfl, rfl⟩⟩, hr, q σ H L rs hr .refl⟩
      · cases h4
    · split at h4
      · rename_i e0
        obtain ⟨D0, fI, T⟩ := ok.xs.mk2 p hp k2
        have sa : SndL X W call (.cons e0 .nil) [ae] := snd (.cons e0 .nil) X W none sc (.es [ae]) ok h5
        refine PS.imp (ps_raise ok.calm ok.tk (pmk_x T gC ok.dp sa.pa (sgl ok h1) o1 (star_cons h3))) fun D σ H ⟨ρ, h, L, rs, hr, q⟩ => ?_
        refine ⟨ρ, h, L, rs, hr, ?_⟩
        have q' : outS X.K W D H L (((ev call (.cons e0 .nil)).a ρ h).toS ρ fun vs h1 => if vs.all Val.atom then .ex c vs ρ h1 else .no) := q
        have one : ∀ vs h1, (ev call (.cons e0 .nil)).a ρ h = .ok vs h1 → ∃ v, vs = [v] := fun vs h1 e => by
          have e' : (((ev call e0).v ρ h).bind fun x h1 => ((ev call .nil).a ρ h1).bind fun xs h2 => .ok (x :: xs) h2) = R.ok vs h1 := e
          cases e2 : (ev call e0).v ρ h with
          | no => rw [e2] at e'; cases e'
          | ok v h2 => rw [e2] at e'; cases e'; exact ⟨v, rfl⟩
          | ex _ _ _ => rw [e2] at e'; cases e'
        have q2 := outS.toS rs q'
        cases e : (ev call (.cons e0 .nil)).a ρ h with
        | no => rw [e] at q2; exact q2
        | ex c' as' h' => rw [e] at q2; exact q2
        | ok vs h1 =>
          rw [e] at q2
          obtain ⟨v, rfl⟩ := one vs h1 e
          intro H1 L1 r1 x1 xs hx
          have q3 : outS X.K W D H1 L1 (if ([v] : List Val).all Val.atom then .ex c [v] ρ h1 else .no) := q2 H1 L1 r1 x1
          split at q3
          · rename_i hat
            obtain ⟨y, rfl, hy⟩ := one_of hx
            have av : v.atom = true := by simpa using hat
            refine ⟨y, rfl, fun dd hd => ⟨c, [v], h1, L1, ⟨p, eg, rfl, .inr ⟨k2, dd, v, y, rfl, rfl, av, upd_same, ?_⟩⟩, r1.new hd, q3 σ _ _ ((rs.mono x1).mono (Ext.new hd)) (r1.new hd) (Ext.new hd)⟩⟩
            intro H2 L2
            cases v <;> first | (cases av; done) | skip
            · rw [hy.non_of]; exact .mk_non
            · rw [hy.bl_of]; exact .mk_bl
            · rw [hy.int_of]; exact .mk_int
            · obtain ⟨rfl, hk⟩ := hy.str_of
              exact .mk_str hk
          · exact q3.elim
      · cases h4
end
end Gu
end

section
set_option Elab.async false
set_option linter.all false
set_option maxRecDepth 100000
set_option maxHeartbeats 1000000
/-! Gx8: attributes stored. -/
namespace Gu
open PySem PySem.Spec PyProof.Rows L2
section
variable {G : GT} {N : List Str} {call : CallT} {X : Cx} {W : L2.St → XW} {sc : Scope}
theorem fset_of {K : PySem.W.Frag} {H : Hp} {L : List Addr} {h h' : MH} (r : HR K H L h) {c f : Str} {x v : Val} {z y : V} {u : Unit} (hx : RV K H L x z) (hv : RV K H L v y) (e : fsetV c f x v h = .ok u h') (na : NoAttr K (He.ga K c) f) :
    ∃ a dx xs, z = .ref a ∧ H a = some (.ins (He.ga K c) dx xs) ∧ Cls K (He.ga K c) ∧ xs.length < 1000 ∧ HR K (upd H a (.ins (He.ga K c) dx (putF f y xs))) L h' ∧ Ext K H L (upd H a (.ins (He.ga K c) dx (putF f y xs))) L := by
  unfold fsetV at e
  split at e
  · rename_i n
    split at e
    · rename_i c' fs eh
      split at e
      · rename_i cc
        obtain ⟨rfl, hl⟩ := cc
        cases e
        obtain ⟨a, dx, xs, rfl, h1, h2, h3, h4⟩ := obj_of r hx eh
        have ht : ∀ xs, H a ≠ some (.tup xs) := by rw [h2]; exact fun _ z => nomatch z
        have hf : ∀ ob u, H a ≠ some (.frz ob u) := by rw [h2]; exact fun _ _ z => nomatch z
        have ext : Ext K H L (upd H a (.ins (He.ga K c') dx (putF f y xs))) L := Ext.writeO ht hf
        refine ⟨a, dx, xs, rfl, h2, h4.1, by rw [← h3.length]; exact hl, r.writeO h1 ht hf ⟨dx, putF f y xs, upd_same, (RF.put hv h3).mono ext, h4.1, fun p hp => ?_⟩, ext⟩
        rcases putA_mem hp with e | ⟨q, hq, e⟩
        · rw [e]; exact na
        · rw [← e]; exact h4.2 q hq
      · cases e
    · cases e
  · cases e
theorem fldC_of {K : PySem.W.Frag} {H : Hp} {L : List Addr} {h : MH} (r : HR K H L h) {c f : Str} {v w : Val} {x : V} (hv : RV K H L v x) (e : fldC h v c f = some w) :
    ∃ a dx xs y, x = .ref a ∧ H a = some (.ins (He.ga K c) dx xs) ∧ xs.lookup f = some y ∧ RV K H L w y := by
  unfold fldC at e
  split at e
  · split at e
    · rename_i c' fs eh
      split at e
      · rename_i cc
        subst cc
        obtain ⟨a, dx, xs, rfl, h1, h2, h3, h4⟩ := obj_of r hv eh
        obtain ⟨y, h5, h6⟩ := h3.some_of e
        exact ⟨a, dx, xs, y, rfl, h2, h5, h6⟩
      · cases e
    · cases e
  · cases e
theorem swAttr {a : Expr} {m : Str} {n : Nat} {p : Pos} {v : Expr} {env : Env} : swapsWith v (some (.Attribute a m p)) n env = pure false := by
  unfold swapsWith
  cases v <;> rfl
theorem na_of (ok : XOk G N call none sc X W) {c f : Str} (h : ofB G c f = true) : Cls X.K (He.ga X.K c) ∧ NoAttr X.K (He.ga X.K c) f := by
  obtain ⟨p, hp, rfl, hf⟩ := of_of h
  exact ⟨(ok.os.cl p hp).2, ok.os.na p hp f hf⟩
theorem s_fset {x v : Expr} {pos' pos : Pos} {c f : Str} {o e : E} (ok : XOk G N call none sc X W) (hc : ofB G c f = true) (ho : SndE X W call o x) (he : SndE X W call e v) :
    PS X (.Assign [.Attribute x f pos'] v pos) (tSt X.K W call (.fset c o f e)) := by
  obtain ⟨hC, hN⟩ := na_of ok hc
  refine PS.imp (ps_fld ho.pe he.pe swAttr) fun D σ H ⟨ρ, h, L, rs, hr, q⟩ => ?_
  refine ⟨ρ, h, L, rs, hr, ?_⟩
  refine (outS.toS rs q).imp fun w h1 H1 L1 r1 x1 q1 => ?_
  intro y hy
  refine ⟨ρ, h1, L1, rs.mono x1, r1, ?_⟩
  refine (outS.toS (rs.mono x1) q1).imp fun w2 h2 H2 L2 r2 x2 q2 => ?_
  intro z hz
  have hy2 := RV.mono x2 _ _ hy
  cases ef : fsetV c f w2 w h2 with
  | no => rw [ef] at q2; exact q2.elim
  | ex _ _ _ => rw [ef] at q2; unfold fsetV at ef; split at ef <;> (try split at ef) <;> (try split at ef) <;> cases ef
  | ok u h3 =>
    rw [ef] at q2
    obtain ⟨a, dx, xs, rfl, e1, e2, e3, e4, e5⟩ := fset_of r2 hz hy2 ef hN
    exact ⟨a, _, dx, xs, rfl, e1, hC, hN, e3, q2 σ _ _ ((rs.mono (x1.trans x2)).mono e5) e4 e5⟩
theorem s_faug {x v : Expr} {pos' pos : Pos} {c f : Str} {op : Operator} {o e : E} (ok : XOk G N call none sc X W) (hop : op = .Add ∨ op = .Sub) (hc : ofB G c f = true) (ho : SndE X W call o x) (he : SndE X W call e v) :
    PS X (.AugAssign (.Attribute x f pos') op v pos) (tSt X.K W call (.faug c o f op e)) := by
  obtain ⟨hC, hN⟩ := na_of ok hc
  have main : ∀ {rd : V → V → Hp → VK → Prop} {g : Int → Int → Int}, InOp X op rd → augF op = some g → (∀ i j H Q, Q (V.int (g i j)) H → rd (.int i) (.int j) H Q) → PS X (.AugAssign (.Attribute x f pos') op v pos) (tSt X.K W call (.faug c o f op e)) := by
    intro rd g hop eg hrd
    refine PS.imp (ps_fldaug ho.pe he.pe hop) fun D σ H ⟨ρ, h, L, rs, hr, q⟩ => ?_
    refine ⟨ρ, h, L, rs, hr, ?_⟩
    refine (outS.toS rs q).imp fun w h1 H1 L1 r1 x1 q1 => ?_
    intro z hz
    rw [eg] at q1
    split at q1
    · rename_i i g' ei eg'
      cases eg'
      obtain ⟨a, dx, xs, y, rfl, e1, e2, e3⟩ := fldC_of r1 hz ei
      obtain rfl := e3.int_of
      refine ⟨a, _, dx, xs, _, rfl, e1, hC, hN, e2, ρ, h1, L1, rs.mono x1, r1, ?_⟩
      refine (outS.toS (rs.mono x1) q1).imp fun w2 h2 H2 L2 r2 x2 q2 => ?_
      intro z2 hz2
      split at q2
      · rename_i j
        obtain rfl := hz2.int_of
        refine hrd _ _ _ _ ?_
        cases ef : fsetV c f w (.int (g i j)) h2 with
        | no => rw [ef] at q2; exact q2.elim
        | ex _ _ _ => rw [ef] at q2; unfold fsetV at ef; split at ef <;> (try split at ef) <;> (try split at ef) <;> cases ef
        | ok u h3 =>
          rw [ef] at q2
          obtain ⟨a', dx', xs', e0, e4, e5, e6, e7, e8⟩ := fset_of r2 (RV.mono x2 _ _ hz) (RV.mk_int (i := g i j)) ef hN
          cases e0
          exact ⟨dx', xs', e4, e6, q2 σ _ _ ((rs.mono (x1.trans x2)).mono e8) e7 e8⟩
      · exact q2.elim
    · exact q1.elim
  rcases hop with rfl | rfl
  · exact main in_add rfl fun i j H Q q => ⟨i, j, rfl, rfl, q⟩
  · exact main in_sub rfl fun i j H Q q => ⟨i, j, rfl, rfl, q⟩
end
end Gu
end

section
set_option Elab.async false
set_option linter.all false
set_option maxRecDepth 100000
set_option maxHeartbeats 1000000
/-! Gu13: all statements are sound. -/
namespace Gu
open PySem PySem.Spec PyProof.Rows L2
section
variable {G : GT} {N : List Str} {call : CallT} {X : Cx} {W : L2.St → XW} {sc : Scope}
def whB (c : Rho → MH → R Bool) (b : Rho → MH → RS) (n : Nat) (ρ : Rho) (h1 : MH) : Bool → RS := fun x => if x then
      (match b ρ h1 with
      | .nx ρ' h' => whl c b n ρ' h'
      | .ct ρ' h' => whl c b n ρ' h'
      | .bk ρ' h' => .nx ρ' h'
      | r => r) else .nx ρ h1
theorem whl_s {c : Rho → MH → R Bool} {b : Rho → MH → RS} {n : Nat} {ρ : Rho} {h : MH} : whl c b (n + 1) ρ h = (c ρ h).toS ρ fun x h1 => whB c b n ρ h1 x := rfl
theorem forL_s {t : NT} {b : Rho → MH → RS} {it : Items} {m i : Nat} {ρ : Rho} {h : MH} : forL t b it (m + 1) i ρ h = (match it.get h i with
    | some x => match setN t x ρ with
      | some ρ1 => match b ρ1 h with
        | .nx ρ' h' => forL t b it m (i + 1) ρ' h'
        | .ct ρ' h' => forL t b it m (i + 1) ρ' h'
        | .bk ρ' h' => .nx ρ' h'
        | r => r
      | Option.none => .no
    | Option.none => .no) := rfl
/-- a turn's outcome, handed on -/
theorem turn_out {K : PySem.W.Frag} {W : L2.St → XW} {D : Ends} {H : Hp} {L : List Addr} {r : RS} {f : Rho → MH → RS} {N : L2.St → Hp → Prop}
    (q : outS K W D H L (match r with
      | .nx ρ' h' => f ρ' h'
      | .ct ρ' h' => f ρ' h'
      | .bk ρ' h' => .nx ρ' h'
      | r => r))
    (hN : ∀ ρ' h' σ' H' L', Slots K H' L' ρ' σ' → HR K H' L' h' → Ext K H L H' L' → outS K W D H' L' (f ρ' h') → N σ' H') :
    outS K W { D with nx := N, ct := N, bk := D.nx } H L r := by
  cases r with
  | no => exact q
  | nx ρ' h' => exact fun σ' H' L' a b c => hN ρ' h' σ' H' L' a b c (outS.from c q)
  | ct ρ' h' => exact fun σ' H' L' a b c => hN ρ' h' σ' H' L' a b c (outS.from c q)
  | bk ρ' h' => exact q
  | rt v h' => exact q
  | ex c as ρ' h' => exact q
theorem s_whl {x : Expr} {ys : List Stmt} {pos : Pos} {c : E} {b : S} (ok : XOk G N call none sc X W) (hc : SndE X W call c x) (hb : PSs X ys (tSt X.K W call b)) : PS X (.While x ys [] pos) (tSt X.K W call (.whl c b)) := by
  refine PS.imp (ps_while ok.hp hc.pt hb) fun D σ H q => ?_
  obtain ⟨ρ, h, L, rs, hr, q⟩ := q
  refine ⟨fun m σ H => ∃ ρ h L, Slots X.K H L ρ σ ∧ HR X.K H L h ∧ outS X.K W D H L (whl (ev call c).t (evS call b) m ρ h), ⟨manyTurns, ρ, h, L, rs, hr, q⟩, fun m σ1 H1 hW => ?_⟩
  obtain ⟨ρ1, h1, L1, rs1, r1, q1⟩ := hW
  cases m with
  | zero => exact q1.elim
  | succ m =>
    rw [whl_s] at q1
    refine ⟨ρ1, h1, L1, rs1, r1, ?_⟩
    refine (outS.toS rs1 q1).imp fun v h2 H2 L2 r2 x2 q2 => ?_
    cases v with
    | false => exact outS.hereN q2 r2 (rs1.mono x2)
    | true =>
      rw [if_pos rfl]
      refine ⟨fun σ' H' => ∃ ρ h L, Slots X.K H' L ρ σ' ∧ HR X.K H' L h ∧ outS X.K W D H' L (whl (ev call c).t (evS call b) m ρ h), fun σ' H' hn => ⟨m, Nat.lt_succ_self m, hn⟩, ρ1, h2, L2, rs1.mono x2, r2, ?_⟩
      exact turn_out (f := fun ρ' h' => whl (ev call c).t (evS call b) m ρ' h') q2 fun ρ' h' σ' H' L' a b' c' q' => ⟨ρ', h', L', a, b', q'⟩
theorem forU_s (is : List Nat) (b : Rho → MH → RS) (it : Items) (m i : Nat) (ρ : Rho) (h : MH) : forU is b it (m + 1) i ρ h =
    (match it.get h i with
    | some x => match setU is x h ρ with
      | some ρ1 => match b ρ1 h with
        | .nx ρ' h' => forU is b it m (i + 1) ρ' h'
        | .ct ρ' h' => forU is b it m (i + 1) ρ' h'
        | .bk ρ' h' => .nx ρ' h'
        | r => r
      | Option.none => .no
    | Option.none => .no) := rfl
theorem g_setU {K : PySem.W.Frag} {H : Hp} {L : List Addr} {Q : L2.St → Hp → Prop} {is : List Nat} {v : Val} {x : V} {ρ ρ' : Rho} {σ : L2.St} {h : MH} (r : HR K H L h) (rs : Slots K H L ρ σ) (hv : RV K H L v x) (e : setU is v h ρ = some ρ')
    (q : ∀ σ', Slots K H L ρ' σ' → Q σ' H) : gUnl K is.length (gNms is) x σ H Q := by
  unfold setU at e
  split at e
  · split at e
    · rename_i eq
      obtain ⟨a, xs, rfl, _, hp, hs⟩ := the_seq r hv eq
      exact ⟨a, xs, rfl, hp, by rw [← hs.length, setNs_len e], g_names rs hs e fun σ' rs' _ => q σ' rs'⟩
    · cases e
  · cases e
theorem s_for {tg x : Expr} {ys : List Stmt} {pos : Pos} {t : NT} {it : E} {b : S} (ok : XOk G N call none sc X W) (ht : okT N none sc t tg = true) (hs : noSetT it tg x = true) (hi : SndE X W call it x) (hb : PSs X ys (tSt X.K W call b)) :
    PS X (.For tg x ys [] pos) (tSt X.K W call (.for_ t it b)) := by
  refine PS.imp (ps_for ok.hp ok.calm (hi.pi tg (noSetT_2 hs)) (pg_t ok ht) hb (set_of (noSetT_1 hs))) fun D σ H q => ?_
  obtain ⟨ρ, h, L, rs, hr, q⟩ := q
  refine ⟨ρ, h, L, rs, hr, ?_⟩
  refine (outS.toS rs q).imp fun its h1 H1 L1 r1 x1 q1 => ?_
  intro J hJ
  refine ⟨fun i m σ H => i + m = its.len ∧ ∃ ρ h L, Slots X.K H L ρ σ ∧ HR X.K H L h ∧ Ext X.K H1 L1 H L ∧ outS X.K W D H L (forL t (evS call b) its m i ρ h), ⟨its.len, by omega, ρ, h1, L1, rs.mono x1, r1, .refl, q1⟩, fun i m σ3 H3 hW => ?_⟩
  obtain ⟨em, ρ3, h3, L3, rs3, r3, x3, q3⟩ := hW
  cases m with
  | zero =>
    have q3' : outS X.K W D H3 L3 (if its.fin h3 then .nx ρ3 h3 else .no) := q3
    split at q3'
    · rename_i c
      have ei : i = its.len := by omega
      subst ei
      exact .inl ⟨hJ.fin x3 r3 c, outS.hereN q3' r3 rs3⟩
    · exact q3'.elim
  | succ m =>
    rw [forL_s] at q3
    split at q3
    · rename_i v ex
      split at q3
      · rename_i ρ' eρ
        obtain ⟨g1, g2⟩ := hJ.get x3 r3 (by omega) ex
        refine .inr ⟨g1, fun σ' H' => ∃ ρ h L, Slots X.K H' L ρ σ' ∧ HR X.K H' L h ∧ Ext X.K H1 L1 H' L ∧ outS X.K W D H' L (forL t (evS call b) its m (i + 1) ρ h), fun σ' H' hn => ⟨m, by omega, by omega, hn⟩, fun y H4 hy => ?_⟩
        obtain ⟨r4, x4, hv⟩ := g2 y H4 hy
        refine g_set (rs3.mono x4) hv eρ fun σ' rs' _ => ⟨ρ', h3, L3, rs', r4, ?_⟩
        exact turn_out (f := fun ρ' h' => forL t (evS call b) its m (i + 1) ρ' h') (outS.from x4 q3) fun ρ' h' σ' H' L' a b' c' q' => ⟨ρ', h', L', a, b', (x3.trans x4).trans c', q'⟩
      · exact q3.elim
    · exact q3.elim
theorem s_forU {x : Expr} {es : List Expr} {k : Nat} {p : Pos} {ys : List Stmt} {pos : Pos} {is : List Nat} {it : E} {b : S} (ok : XOk G N call none sc X W) (ht : okNs N none sc is es = true) (hs : noSetT it (.Tuple es k p) x = true) (hi : SndE X W call it x) (hb : PSs X ys (tSt X.K W call b)) :
    PS X (.For (.Tuple es k p) x ys [] pos) (tSt X.K W call (.forU is it b)) := by
  obtain ⟨g1, g2, g3⟩ := pg_ns ok ht
  refine PS.imp (ps_for ok.hp ok.calm (hi.pi (.Tuple es k p) (noSetT_2 hs)) (pg_unl ok.calm g1 g2 g3) hb (set_of (noSetT_1 hs))) fun D σ H q => ?_
  obtain ⟨ρ, h, L, rs, hr, q⟩ := q
  refine ⟨ρ, h, L, rs, hr, ?_⟩
  refine (outS.toS rs q).imp fun its h1 H1 L1 r1 x1 q1 => ?_
  intro J hJ
  refine ⟨fun i m σ H => i + m = its.len ∧ ∃ ρ h L, Slots X.K H L ρ σ ∧ HR X.K H L h ∧ Ext X.K H1 L1 H L ∧ outS X.K W D H L (forU is (evS call b) its m i ρ h), ⟨its.len, by omega, ρ, h1, L1, rs.mono x1, r1, .refl, q1⟩, fun i m σ3 H3 hW => ?_⟩
  obtain ⟨em, ρ3, h3, L3, rs3, r3, x3, q3⟩ := hW
  cases m with
  | zero =>
    have q3' : outS X.K W D H3 L3 (if its.fin h3 then .nx ρ3 h3 else .no) := q3
    split at q3'
    · rename_i c
      have ei : i = its.len := by omega
      subst ei
      exact .inl ⟨hJ.fin x3 r3 c, outS.hereN q3' r3 rs3⟩
    · exact q3'.elim
  | succ m =>
    rw [forU_s] at q3
    split at q3
    · rename_i v ex
      split at q3
      · rename_i ρ' eρ
        obtain ⟨g1, g2⟩ := hJ.get x3 r3 (by omega) ex
        refine .inr ⟨g1, fun σ' H' => ∃ ρ h L, Slots X.K H' L ρ σ' ∧ HR X.K H' L h ∧ Ext X.K H1 L1 H' L ∧ outS X.K W D H' L (forU is (evS call b) its m (i + 1) ρ h), fun σ' H' hn => ⟨m, by omega, by omega, hn⟩, fun y H4 hy => ?_⟩
        obtain ⟨r4, x4, hv⟩ := g2 y H4 hy
        refine g_setU r4 (rs3.mono x4) hv eρ fun σ' rs' => ⟨ρ', h3, L3, rs', r4, ?_⟩
        exact turn_out (f := fun ρ' h' => forU is (evS call b) its m (i + 1) ρ' h') (outS.from x4 q3) fun ρ' h' σ' H' L' a b' c' q' => ⟨ρ', h', L', a, b', (x3.trans x4).trans c', q'⟩
      · exact q3.elim
    · exact q3.elim
theorem swTup {es : List Expr} {k n : Nat} {p : Pos} {v : Expr} {env : Env} : swapsWithSole [.Tuple es k p] v n env = pure false := by
  show swapsWith v (some (.Tuple es k p)) n env = _
  unfold swapsWith
  cases v <;> rfl
theorem swSub {a b : Expr} {n : Nat} {p : Pos} {v : Expr} {env : Env} : swapsWithSole [.Subscript a b p] v n env = pure false := by
  show swapsWith v (some (.Subscript a b p)) n env = _
  unfold swapsWith
  cases v <;> rfl
theorem swSubS {a b : Expr} {p : Pos} {v : Expr} {env : Env} : swappedStores [.Subscript a b p] v env = pure none := by
  unfold swappedStores
  cases v <;> rfl
theorem never_one {st : Stmt} : PS X st (tSt X.K W call .never) := PS.imp ps_never fun D σ H q => by
  obtain ⟨ρ, h, L, rs, hr, q⟩ := q
  exact q
theorem never_many {st : List Stmt} : PSs X st (tSt X.K W call .never) := PSs.imp pss_never fun D σ H q => by
  obtain ⟨ρ, h, L, rs, hr, q⟩ := q
  exact q
theorem s_tp1 {is : List Nat} {e : E} {es : List Expr} {k : Nat} {p pos : Pos} {v : Expr} (ok : XOk G N call none sc X W) (h1 : okT N none sc (.tp is) (.Tuple es k p) = true) (h2 : swappedStores [.Tuple es k p] v X.env = pure none) (h3 : okE G N e none sc (.e v) = true) :
    PS X (.Assign [.Tuple es k p] v pos) (tSt X.K W call (.asg (.nt (.tp is)) e)) := by
  refine PS.imp (ps_asg (e_of ok (W := W) h3).pe (pg_t ok h1) swTup h2) fun D σ H ⟨ρ, h, L, rs, hr, q⟩ => ⟨ρ, h, L, rs, hr, ?_⟩
  refine (outS.toS rs q).imp fun v h1 H1 L1 r1 x1 q1 => ?_
  intro z hz
  simp only at q1
  split at q1
  · rename_i ρ' eρ
    exact g_set (rs.mono x1) hz eρ fun σ' rs' _ => outS.hereN q1 r1 rs'
  · exact q1.elim
theorem s_tps {is : List Nat} {e : E} {es : List Expr} {k : Nat} {p pos : Pos} {v : Expr} (ok : XOk G N call none sc X W) (hk : sc.kind = .function) (h1 : okT N none sc (.tp is) (.Tuple es k p) = true) (h2 : noTup v = true ∨ decide (3 < es.length) = true ∨ swpB sc is es e v = true) (h3 : okE G N e none sc (.e v) = true) :
    PS X (.Assign [.Tuple es k p] v pos) (tSt X.K W call (.asg (.nt (.tp is)) e)) := by
  rcases h2 with h2 | h2 | h2
  · exact s_tp1 ok h1 (swStore h2) h3
  · exact s_tp1 ok h1 (swStore4 (of_decide_eq_true h2)) h3
  · unfold swpB at h2
    split at h2
    · rename_i i j x px y py a b va vb k2 p2
      simp only [Bool.and_eq_true, decide_eq_true_eq] at h2
      obtain ⟨g1, g2, g3, g4, g5, g6, g7, g8, g9⟩ := h2
      have h3 : okE G N (.cons a (.cons b .nil)) none sc (.es [va, vb]) = true := h3
      have sl : SndL X W call (.cons a (.cons b .nil)) [va, vb] := snd _ X W none sc (.es _) ok h3
      have h1 : (okN N none sc i (.Name x px) && (okN N none sc j (.Name y py) && true)) = true := h1
      rw [Bool.and_true, Bool.and_eq_true] at h1
      have i1 : (decide (N[i]? = some x) && stB none sc x) = true := h1.1
      have i2 : (decide (N[j]? = some y) && stB none sc y) = true := h1.2
      rw [Bool.and_eq_true, decide_eq_true_eq] at i1 i2
      refine PS.imp (ps_par ok.calm (by rw [ok.names]; exact ok.nd) (by rw [ok.names]; exact i1.1) (by rw [ok.names]; exact i2.1) g1 (by rw [ok.sc]; exact g2) (by rw [ok.sc]; exact g3) sl.pa (swStore2 (by rw [ok.sc]; exact hk) (by rw [ok.sc]; exact g2) (by rw [ok.sc]; exact g3) g4 g5 g6 g7 g8 g9) swTup) fun D σ H ⟨ρ, h, L, rs, hr, q⟩ => ⟨ρ, h, L, rs, hr, ?_⟩
      have q1 := outS.toS rs q
      refine (outV.bind q1).imp fun vs h2 H2 L2 r2 x2 q2 => ?_
      intro xs hxs
      split at q2
      · have q3 := q2 H2 L2 r2 .refl
        have q3 : outS X.K W D H2 L2 (match setNs [i, j] vs ρ with | some ρ' => .nx ρ' h2 | Option.none => .no) := q3
        match vs, xs, hxs, q3 with
        | [], _, _, q3 => exact q3.elim
        | [_], _, _, q3 => exact q3.elim
        | _ :: _ :: _ :: _, _, _, q3 => exact q3.elim
        | [v, w], xs, hxs, q3 =>
          obtain ⟨z1, ez1, hz1⟩ := hxs.get (i := 0) rfl
          obtain ⟨z2, ez2, hz2⟩ := hxs.get (i := 1) rfl
          have hl := hxs.length
          have exs : xs = [z1, z2] := by
            match xs, hl, ez1, ez2 with
            | [a, b], _, e1, e2 =>
              cases e1
              cases e2
              rfl
          have rs2 := rs.mono x2
          exact ⟨z1, z2, exs, outS.hereN q3 r2 ((rs2.set i hz1).set j hz2)⟩
      · exact q2.elim
    · cases h2
theorem sndS (hk : sc.kind = .function) : ∀ (s : S) (X : Cx) (W : L2.St → XW) (ns : Ns), XOk G N call none sc X W → X.stack = X.env :: X.outer → X.env.frame = some X.env.locals → okB G N sc s ns = true → SndS X W call s ns := by
  intro s
  induction s with
  | raise c es =>
    intro X W ns ok stk frm h
    cases ns with
    | one st => exact ss_raise ok h
    | many ss => unfold okB at h; cases h
  | try_ b hs ihb =>
    intro X W ns ok stk frm h
    unfold okB at h
    split at h
    all_goals first | contradiction | (cases h; done) | skip
    rename_i he
    cases he
    rw [Bool.and_eq_true] at h
    exact ss_try ok stk frm (fun pn xe Wb ok' => ihb (X.tr pn xe) Wb (.many _) ok' stk frm h.1) h.2
  | skip =>
    intro X W ns ok stk frm h
    unfold okB at h
    split at h
    all_goals first | contradiction | (cases h; done) | skip
    · exact PSs.imp pss_nil fun D σ H ⟨ρ, h, L, rs, hr, q⟩ => outS.hereN q hr rs
    · exact PS.imp ps_pass fun D σ H ⟨ρ, h, L, rs, hr, q⟩ => outS.hereN q hr rs
  | seq a b iha ihb =>
    intro X W ns ok stk frm h
    unfold okB at h
    split at h
    all_goals first | contradiction | (cases h; done) | skip
    rename_i he
    cases he
    rw [Bool.and_eq_true] at h
    refine PSs.imp (pss_cons (iha X W _ ok stk frm h.1) (ihb X W _ ok stk frm h.2)) fun D σ H ⟨ρ, h, L, rs, hr, q⟩ => ⟨ρ, h, L, rs, hr, ?_⟩
    have q : outS X.K W D H L ((evS call a ρ h).andThen (evS call b)) := q
    cases e : evS call a ρ h with
    | no => rw [e] at q; exact q
    | nx ρ' h' => rw [e] at q; exact fun σ' H' L' u v w => ⟨ρ', h', L', u, v, outS.from w q⟩
    | bk ρ' h' => rw [e] at q; exact q
    | ct ρ' h' => rw [e] at q; exact q
    | rt v h' => rw [e] at q; exact q
    | ex c as ρ' h' => rw [e] at q; exact q
  | asg t e =>
    intro X W ns ok stk frm h
    unfold okB at h
    split at h
    all_goals first | contradiction | (cases h; done) | skip
    · rename_i he
      cases he
      simp only [Bool.and_eq_true] at h
      exact ss_name ok h.1.1 h.1.2 h.2 hk
    · rename_i he
      cases he
      simp only [Bool.and_eq_true] at h
      obtain ⟨⟨h1, h2⟩, h3⟩ := h
      rw [Bool.or_eq_true, Bool.or_eq_true] at h2
      exact s_tps ok hk h1 h2 h3
    · rename_i he
      cases he
      simp only [Bool.and_eq_true] at h
      obtain ⟨⟨⟨h1, h2⟩, h3⟩, h4⟩ := h
      refine PS.imp (ps_asg (g := gSub _ _ (fun o i v H Q => ∃ W, rSet X.K W o i v H Q)) (e_of ok (W := W) h4).pe (pg_sub (e_of ok (W := W) h2).pe (e_of ok (W := W) h3).pe (fun pins s σ H o i v ov iv u Q I a b c ⟨W, q⟩ => pset_set pins s σ H o i v ov iv u Q I a b c q) ?_) swSub swSubS) fun D σ H ⟨ρ, h, L, rs, hr, q⟩ => ⟨ρ, h, L, rs, hr, ?_⟩
      · intro v
        rename_i xx yy _ _ _
        cases yy <;> first | rfl | (cases h1; done)
      · refine (outS.toS rs q).imp fun v h1 H1 L1 r1 x1 q1 => ?_
        intro z hz
        refine ⟨ρ, h1, L1, rs.mono x1, r1, ?_⟩
        refine (outS.toS (rs.mono x1) q1).imp fun o h2 H2 L2 r2 x2 q2 => ?_
        intro zo hzo
        have rs2 := (rs.mono x1).mono x2
        refine ⟨ρ, h2, L2, rs2, r2, ?_⟩
        refine (outS.toS rs2 q2).imp fun i h3 H3 L3 r3 x3 q3 => ?_
        intro zi hzi
        have rs3 := rs2.mono x3
        refine ⟨W σ, o, i, v, h3, L3, r3, RV.mono x3 _ _ hzo, hzi, RV.mono x3 _ _ (RV.mono x2 _ _ hz), ?_⟩
        exact (outS.toS rs3 q3).imp fun _ h4 H4 L4 r4 x4 q4 => outS.hereN q4 r4 (rs3.mono x4)
    · rename_i he
      cases he
      simp only [Bool.and_eq_true] at h
      obtain ⟨⟨⟨⟨⟨h1, hv0⟩, hj⟩, h2⟩, h3⟩, h4⟩ := h
      rename_i o i j xx yy _ nn np _ _ vv _
      refine PS.imp (ps_asg (g := gTup X.K 2 (gCons (gSub (tV X.K W call o) (tV X.K W call i) (fun o i v H Q => ∃ W, rSet X.K W o i v H Q)) (gCons (gName j) gNil))) (e_of ok (W := W) h4).pe (pg_tup ok.calm (pgs_cons (pg_sub (e_of ok (W := W) h2).pe (e_of ok (W := W) h3).pe (fun pins s σ H o i v ov iv u Q I a b c ⟨W, q⟩ => pset_set pins s σ H o i v ov iv u Q I a b c q) ?_) (pgs_cons (pg_n ok hj) pgs_nil))) swTup (swStore hv0)) fun D σ H ⟨ρ, h, L, rs, hr, q⟩ => ⟨ρ, h, L, rs, hr, ?_⟩
      · intro v
        cases yy <;> first | rfl | (cases h1; done)
      · refine (outS.toS rs q).imp fun v h1 H1 L1 r1 x1 q1 => ?_
        intro z hz
        simp only at q1
        split at q1
        · rename_i v1 v2
          obtain ⟨a, xs, rfl, hp, hv⟩ := hz.tup_of
          obtain ⟨z1, r1', rfl, hz1, hv2⟩ := hv.inv
          obtain ⟨z2, r2', rfl, hz2, hv3⟩ := hv2.inv
          obtain rfl := hv3.inv0
          refine ⟨a, _, rfl, hp, rfl, z1, _, rfl, ?_⟩
          refine ⟨ρ, h1, L1, rs.mono x1, r1, ?_⟩
          refine (outS.toS (rs.mono x1) q1).imp fun o h2 H2 L2 r2 x2 q2 => ?_
          intro zo hzo
          have rs2 := (rs.mono x1).mono x2
          refine ⟨ρ, h2, L2, rs2, r2, ?_⟩
          refine (outS.toS rs2 q2).imp fun i h3 H3 L3 r3 x3 q3 => ?_
          intro zi hzi
          have rs3 := rs2.mono x3
          refine ⟨W σ, o, i, v1, h3, L3, r3, RV.mono x3 _ _ hzo, hzi, RV.mono x3 _ _ (RV.mono x2 _ _ hz1), ?_⟩
          refine (outS.toS rs3 q3).imp fun _ h4 H4 L4 r4 x4 q4 => ?_
          exact ⟨z2, [], rfl, rfl, outS.hereN q4 r4 ((rs3.mono x4).set j (RV.mono x4 _ _ (RV.mono x3 _ _ (RV.mono x2 _ _ hz2))))⟩
        · exact q1.elim
  | dput o i e =>
    intro X W ns ok stk frm h
    unfold okB at h
    split at h
    all_goals first | contradiction | (cases h; done) | skip
    rename_i he
    cases he
    simp only [Bool.and_eq_true] at h
    obtain ⟨⟨⟨h1, h2⟩, h3⟩, h4⟩ := h
    exact ss_dput ok h1 h2 h3 h4
  | ddel d k =>
    intro X W ns ok stk frm h
    unfold okB at h
    split at h
    all_goals first | contradiction | (cases h; done) | skip
    rename_i he
    cases he
    simp only [Bool.and_eq_true] at h
    exact ss_ddel ok h.1 h.2
  | dcp t d g =>
    intro X W ns ok stk frm h
    unfold okB at h
    split at h
    all_goals first | contradiction | (cases h; done) | skip
    rename_i he
    cases he
    simp only [Bool.and_eq_true, decide_eq_true_eq] at h
    obtain ⟨⟨⟨⟨⟨⟨⟨⟨⟨⟨⟨h1, rfl⟩, rfl⟩, rfl⟩, h5⟩, h6⟩, h7⟩, h8⟩, h9⟩, h10⟩, h11⟩, h12⟩ := h
    exact ss_dcp ok h1 h5 h6 h7 h8 h9 h10 h11 h12
  | aug i o e =>
    intro X W ns ok stk frm h
    unfold okB at h
    split at h
    all_goals first | contradiction | (cases h; done) | skip
    rename_i he
    cases he
    simp only [Bool.and_eq_true, decide_eq_true_eq] at h
    obtain ⟨⟨⟨rfl, h1⟩, h2⟩, h3⟩ := h
    exact ss_aug ok h1 h3
  | expr e =>
    intro X W ns ok stk frm h
    unfold okB at h
    split at h
    all_goals first | contradiction | (cases h; done) | skip
    rename_i he
    cases he
    simp only [Bool.and_eq_true] at h
    refine PS.imp (ps_expr (e_of ok (W := W) h.2).pe (swE h.1)) fun D σ H ⟨ρ, h, L, rs, hr, q⟩ => ⟨ρ, h, L, rs, hr, ?_⟩
    exact (outS.toS rs q).imp fun v h1 H1 L1 r1 x1 q1 => fun z hz => outS.hereN q1 r1 (rs.mono x1)
  | ret e =>
    intro X W ns ok stk frm h
    unfold okB at h
    split at h
    all_goals first | contradiction | (cases h; done) | skip
    rename_i he
    cases he
    refine PS.imp (ps_ret (e_of ok (W := W) h).pe) fun D σ H ⟨ρ, h, L, rs, hr, q⟩ => ⟨ρ, h, L, rs, hr, ?_⟩
    exact (outS.toS rs q).imp fun v h1 H1 L1 r1 x1 q1 => fun z hz => q1 z _ _ r1 .refl hz
  | retn =>
    intro X W ns ok stk frm h
    unfold okB at h
    split at h
    all_goals first | contradiction | (cases h; done) | skip
    exact PS.imp ps_retN fun D σ H ⟨ρ, h, L, rs, hr, q⟩ => q _ _ _ hr .refl .mk_non
  | ite c a b iha ihb =>
    intro X W ns ok stk frm h
    unfold okB at h
    split at h
    all_goals first | contradiction | (cases h; done) | skip
    rename_i he
    cases he
    simp only [Bool.and_eq_true] at h
    refine PS.imp (ps_if (e_of ok (W := W) h.1.1).pt (iha X W _ ok stk frm h.1.2) (ihb X W _ ok stk frm h.2)) fun D σ H ⟨ρ, h, L, rs, hr, q⟩ => ⟨ρ, h, L, rs, hr, ?_⟩
    refine (outS.toS rs q).imp fun v h1 H1 L1 r1 x1 q1 => ?_
    cases v with
    | true => exact ⟨ρ, h1, L1, rs.mono x1, r1, q1⟩
    | false => exact ⟨ρ, h1, L1, rs.mono x1, r1, q1⟩
  | whl c b ihb =>
    intro X W ns ok stk frm h
    unfold okB at h
    split at h
    all_goals first | contradiction | (cases h; done) | skip
    rename_i he
    cases he
    simp only [Bool.and_eq_true] at h
    exact s_whl ok (e_of ok h.1) (ihb X W _ ok stk frm h.2)
  | for_ t it b ihb =>
    intro X W ns ok stk frm h
    unfold okB at h
    split at h
    all_goals first | contradiction | (cases h; done) | skip
    rename_i he
    cases he
    simp only [Bool.and_eq_true] at h
    exact s_for ok h.1.1.1 h.1.1.2 (e_of ok h.1.2) (ihb X W _ ok stk frm h.2)
  | forU is it b ihb =>
    intro X W ns ok stk frm h
    unfold okB at h
    split at h
    all_goals first | contradiction | (cases h; done) | skip
    rename_i he
    cases he
    simp only [Bool.and_eq_true] at h
    exact s_forU ok h.1.1.1 h.1.1.2 (e_of ok h.1.2) (ihb X W _ ok stk frm h.2)
  | fset c o f e =>
    intro X W ns ok stk frm h
    unfold okB at h
    split at h
    all_goals first | contradiction | (cases h; done) | skip
    rename_i he
    cases he
    simp only [Bool.and_eq_true, decide_eq_true_eq] at h
    obtain ⟨⟨⟨rfl, h1⟩, h2⟩, h3⟩ := h
    exact s_fset ok h1 (e_of ok h2) (e_of ok h3)
  | faug c o f op e =>
    intro X W ns ok stk frm h
    unfold okB at h
    split at h
    all_goals first | contradiction | (cases h; done) | skip
    rename_i he
    cases he
    simp only [Bool.and_eq_true, decide_eq_true_eq, Bool.or_eq_true] at h
    obtain ⟨⟨⟨⟨⟨rfl, rfl⟩, h0⟩, h1⟩, h2⟩, h3⟩ := h
    exact s_faug ok h0 h1 (e_of ok h2) (e_of ok h3)
  | brk =>
    intro X W ns ok stk frm h
    unfold okB at h
    split at h
    all_goals first | contradiction | (cases h; done) | skip
    exact PS.imp ps_break fun D σ H ⟨ρ, h, L, rs, hr, q⟩ => q _ _ _ rs hr .refl
  | cnt =>
    intro X W ns ok stk frm h
    unfold okB at h
    split at h
    all_goals first | contradiction | (cases h; done) | skip
    exact PS.imp ps_continue fun D σ H ⟨ρ, h, L, rs, hr, q⟩ => q _ _ _ rs hr .refl
  | never =>
    intro X W ns ok stk frm h
    cases ns with
    | one st => exact never_one
    | many sts => exact never_many
end
end Gu
end

section
set_option Elab.async false
set_option linter.all false
set_option maxRecDepth 100000
set_option maxHeartbeats 1000000
/-! Gu14: the defs of a module; a law's end. -/
namespace Gu
open PySem PySem.Spec PyProof.Rows L2
/-- a def of the text with its form in the small language -/
structure Ent (G : GT) where
  x : Str
  at_ : Str × Option Str := (x, none)
  nm : Str := x
  qn : Str := x
  a : Arguments
  body : List Stmt
  sc : Scope
  N : List Str
  ps : List Str
  F : Fn
  scp : FnScope N ps sc
  np : ps.length = F.np
  nn : N.length = F.nn
  chk : okB G N sc F.body (.many body) = true
  bind : ∀ (kV doc pm : Value) (an : Option Addr) (cdv ct : Value) (us : List Value), us.length = ps.length → bindArgs (PySem.W.fnOf nm qn a body sc .none kV doc pm an cdv ct) ⟨us, []⟩ = pure (ps.zip us)
def Ent.d {G : GT} (e : Ent G) : He.DefD := ⟨e.at_, e.nm, e.qn, e.a, e.body, e.sc, [], []⟩
theorem callK_len {ft : List Fn} {k f : Nat} {F : Fn} {gvs : List Val} {h : MH} (e : ft[f]? = some F) (hn : gvs.length ≠ F.np) : callK ft k f gvs h = .no := by
  cases k with
  | zero => rfl
  | succ k =>
    unfold callK
    rw [e]
    show (if gvs.length = F.np ∧ F.np ≤ F.nn then _ else R.no) = R.no
    rw [if_neg fun c => hn c.1]
section
variable {P : Program} {w : World} {K : PySem.W.Frag} {mg : Str → Option Value} {base : Heap} {G : GT} {ents : List (Ent G)}
/-- what the head tells -/
structure Told (P : Program) (K : PySem.W.Frag) (mg : Str → Option Value) (G : GT) (ents : List (Ent G)) : Prop where
  hG : G.fns = ents.map fun e => (e.x, e.F.np)
  fn : ∀ f e, ents[f]? = some e → ∃ fa fd, FunD K e.nm e.qn e.a e.body e.sc [] [] fa fd ∧ Role K mg G f e.x fa
  unb : ∀ x ∈ bnames, mg x = none
  glb : ∀ x v, G.gcs.lookup x = some v → ∃ u y, mg x = some u ∧ RelV y u ∧ ∀ H L, RV K H L v y
  xs : XFacts P K mg G
  os : OFacts K mg G
theorem start_slots {H : Hp} {L : List Addr} {gvs : List Val} {vs : List V} (h : RVs K H L gvs vs) (N : List Str) (n : Nat) (hn : n = N.length - vs.length) : Slots K H L (gvs.map some ++ List.replicate n none) (L2.start N vs) := by
  subst hn
  unfold L2.start
  refine ⟨by simp [h.length], fun i v e => ?_⟩
  by_cases hi : i < gvs.length
  · rw [List.getElem?_append_left (by simpa using hi), List.getElem?_map] at e
    cases e1 : gvs[i]? with
    | none => rw [e1] at e; cases e
    | some w =>
      rw [e1] at e
      cases e
      obtain ⟨y, e2, e3⟩ := h.get e1
      refine ⟨y, ?_, e3⟩
      rw [List.getElem?_append_left (by rw [List.length_map, ← h.length]; exact hi), List.getElem?_map, e2]
      rfl
  · rw [List.getElem?_append_right (by simpa using hi), List.getElem?_replicate] at e
    split at e <;> cases e
theorem ent_of (T : Told P K mg G ents) {f : Nat} {x : Str} {np : Nat} (h : G.fns[f]? = some (x, np)) : ∃ e : Ent G, ents[f]? = some e ∧ e.x = x ∧ e.F.np = np := by
  rw [T.hG, List.getElem?_map] at h
  cases e : ents[f]? with
  | none => rw [e] at h; cases h
  | some e' =>
    rw [e] at h
    have h' : (e'.x, e'.F.np) = (x, np) := Option.some.inj h
    cases h'
    exact ⟨e', rfl, rfl, rfl⟩
theorem ent_ok (T : Told P K mg G ents) : ∀ (k f : Nat) (e : Ent G) (fa : Addr) (fd : FuncData), ents[f]? = some e → FunD K e.nm e.qn e.a e.body e.sc [] [] fa fd →
    FnOk P w K mg base (L2.CX P w) ((1 + G.two) * k) fa fd e.ps (spG K G (callK (ents.map (·.F)) k) f e.F.np) := by
  intro k
  induction k with
  | zero =>
    intro f e fa fd e1 F
    refine ⟨fun vs H Q E q => by rw [q.1, e.np], fun A outer s H args us vs Q E _ _ _ _ q => ?_⟩
    obtain ⟨_, gvs, h, L, _, _, q⟩ := q
    exact q.elim
  | succ k ih =>
    intro f e fa fd e1 F
    have lv : (1 + G.two) * (k + 1) = ((1 + G.two) * k + G.two) + 1 := by rw [Nat.mul_succ]; omega
    rw [lv]
    refine F.ok e.scp (fun vs H Q E q => by rw [q.1, e.np]) fun cdv A outer s H vs Q E hr q => ?_
    have ok : XOk G e.N (callK (ents.map (·.F)) k) none e.sc (cxOf (L2.CX P w) P w K mg base e.N e.qn e.sc fa cdv A outer s H E) (fun _ => exW K G E) :=
      { names := rfl, nd := e.scp.nd, calm := rfl, sc := rfl, fn := fun _ _ _ => rfl
        un := by have := hr.un; show (A.deeper _).units + 164 < cLine; omega
        hp := passes_of (X := cxOf (L2.CX P w) P w K mg base e.N e.qn e.sc fa cdv A outer s H E) rfl
        tk := Takes.imp (takes_of rfl rfl rfl rfl) fun cls d σ H ⟨c, as, h, L, xr, _, q⟩ => q cls d xr
        dp := by have := hr.dp; show (A.deeper _).depth + 1 < recursionLimit; omega
        xs := T.xs
        os := T.os
        unb := T.unb
        glb := T.glb
        len := fun f x np gvs h hf hn => by
          obtain ⟨e', e2, _, rfl⟩ := ent_of T hf
          exact callK_len (F := e'.F) (by rw [List.getElem?_map, e2]; rfl) hn
        fns := fun f x np hf => by
          obtain ⟨e', e2, rfl, rfl⟩ := ent_of T hf
          obtain ⟨fa', fd', F', m'⟩ := T.fn f e' e2
          exact ⟨fa', fd', e'.ps, (1 + G.two) * k, ih f e' fa' fd' e2 F', hr, m', F'.kp, F'.bindsN e'.bind, e'.np⟩ }
    refine ⟨tSt K (fun _ => exW K G E) (callK (ents.map (·.F)) k) e.F.body, (show PSs _ _ (tSt K (fun _ => exW K G E) (callK (ents.map (·.F)) k) e.F.body) from sndS e.scp.kind e.F.body _ _ (.many e.body) ok rfl rfl e.chk), ?_⟩
    obtain ⟨hl, gvs, h, L, hr', hv, q⟩ := q
    have eF : (ents.map (·.F))[f]? = some e.F := by rw [List.getElem?_map, e1]; rfl
    have hlen : gvs.length = e.F.np := by rw [hv.length]; exact hl
    have q2 : outV K (exW K G E) H L (match evS (callK (ents.map (·.F)) k) e.F.body (gvs.map some ++ List.replicate (e.F.nn - gvs.length) Option.none) h with
        | .rt v h' => .ok v h'
        | .nx _ h' => .ok .non h'
        | .ex c as _ h' => .ex c as h'
        | _ => .no) (fin1 K Q) := by
      unfold callK at q
      rw [eF] at q
      have hle : e.F.np ≤ e.F.nn := by
        have := congrArg List.length e.scp.pre
        rw [List.length_take] at this
        rw [← e.np, ← e.nn]
        omega
      have q' : outV K (exW K G E) H L (if gvs.length = e.F.np ∧ e.F.np ≤ e.F.nn then (match evS (callK (ents.map (·.F)) k) e.F.body (gvs.map some ++ List.replicate (e.F.nn - gvs.length) Option.none) h with
        | .rt v h' => .ok v h'
        | .nx _ h' => .ok .non h'
        | .ex c as _ h' => .ex c as h'
        | _ => .no) else .no) (fin1 K Q) := q
      rw [if_pos ⟨hlen, hle⟩] at q'
      exact q'
    refine ⟨_, h, L, start_slots hv e.N (e.F.nn - gvs.length) (by rw [← e.nn, hv.length]), hr', ?_⟩
    cases ev' : evS (callK (ents.map (·.F)) k) e.F.body (gvs.map some ++ List.replicate (e.F.nn - gvs.length) Option.none) h with
    | no => rw [ev'] at q2; exact q2
    | nx ρ' h' => rw [ev'] at q2; exact fun σ' H' L' _ a b => q2 H' L' a b _ .mk_non
    | rt v h' => rw [ev'] at q2; exact fun z H' L' a b c => q2 H' L' a b z c
    | bk ρ' h' => rw [ev'] at q2; exact q2.elim
    | ct ρ' h' => rw [ev'] at q2; exact q2.elim
    | ex c as ρ' h' => rw [ev'] at q2; exact fun σ' H' L' _ a b => q2 H' L' a b
/-- the law's promise at the script -/
theorem law_sp {k f : Nat} {call : CallT} {n : Nat} (hlaw : ∀ ns : List Int, ns.length ≤ n → ∃ h', call f [.fro (ns.map Val.int)] [] = .ok (.bl true) h') (H : Hp) (a : Addr) (ns : List Int) (hl : ns.length ≤ n) (ho : Only H) (hs : SqL K H a (ns.map V.int)) :
    spG K G call f 1 [.ref a] H (fun v _ => v = .bl true) (fun _ _ _ => False) := by
  have hf : SqF K H a (ns.map V.int) := by
    rcases hs with (h | ⟨o, h⟩) | h
    · rcases ho a with e | ⟨o, xs, e⟩
      · rw [e] at h; cases h
      · rw [e] at h; cases h
    · exact .inl ⟨o, h⟩
    · exact .inr h
  have hi : ∀ ns : List Int, RVs K H [] (ns.map Val.int) (ns.map V.int) := fun ns => by
    induction ns with
    | nil => exact RVs.nil
    | cons n r ih => exact RVs.cons .mk_int ih
  obtain ⟨h', e⟩ := hlaw ns hl
  refine ⟨rfl, [.fro (ns.map Val.int)], [], [], ⟨rfl, .nil, fun n o e => by simp at e⟩, RVs.cons (.mk_fro hf (hi ns)) RVs.nil, ?_⟩
  rw [e]
  exact fun H' L' _ _ z hz => hz.bl_of
end
end Gu
end

section
set_option Elab.async false
set_option linter.all false
set_option maxRecDepth 100000
set_option maxHeartbeats 1000000
/-! Gu15: the head's facts. -/
namespace Gu
open PySem PySem.Spec PyProof.Rows L2
def toDv : Val → He.Dv
  | .bl b => .bl b
  | .int i => .int i
  | .str s => .str (toS s)
  | _ => .non
def constOk : Val → Bool
  | .non => true
  | .bl _ => true
  | .int _ => true
  | .str s => s.all (fun c => decide (c < 1114112)) && decide (s.length ≤ sizeLine)
  | _ => false
theorem constOk_str {s : List Nat} (h : constOk (.str s) = true) : okS s := by
  have h' : (s.all (fun c => decide (c < 1114112)) && decide (s.length ≤ sizeLine)) = true := h
  simp only [Bool.and_eq_true, decide_eq_true_eq, List.all_eq_true] at h'
  exact h'
section
variable {K : PySem.W.Frag} {H : Hp} {L : List Addr}
theorem rv_const {v : Val} (h : constOk v = true) : RV K H L v ((toDv v).v K) := by
  cases v with
  | non => exact .mk_non
  | bl _ => exact .mk_bl
  | int _ => exact .mk_int
  | str s => exact .mk_str (constOk_str h)
  | tup _ => cases h
  | fro _ => cases h
  | loc _ => cases h
  | dct _ => cases h
theorem rvs_const : ∀ {vs : List Val}, vs.all constOk = true → RVs K H L vs ((vs.map toDv).map (He.Dv.v K))
  | [], _ => RVs.nil
  | v :: vs, h => by
    rw [List.all_cons, Bool.and_eq_true] at h
    exact RVs.cons (rv_const h.1) (rvs_const h.2)
end
def faC (p : Str × Val) : He.Fa := match p.2 with
  | .str s => .str p.1 (toS s)
  | .int i => .int p.1 i
  | _ => .glo p.1
def exC (K : PySem.W.Frag) (p : Str × Val) : Bool := match p.2 with
  | .str s => constOk (.str s)
  | .int _ => true
  | .tup vs => He.tupB K p.1 (vs.map toDv) && vs.all constOk
  | _ => false
def entFa (G : GT) (p : Ent G × Nat) : He.Fa := match G.mts.lookup p.2 with
  | none => .glo p.1.x
  | some (c, m) => if m = "__init__" then .mkr c else .meth c m
def rolB (G : GT) (ents : List (Ent G)) : Bool := ents.zipIdx.all fun p => match G.mts.lookup p.2 with
  | none => decide (p.1.at_ = (p.1.x, none))
  | some (c, m) => decide (p.1.at_ = (c, some m))
theorem role_of {G : GT} {K : PySem.W.Frag} {h : Heap} {mg : Str → Option Value} (X : K.In h) (N : h.Ns mainGlobals mg) {e : Ent G} {f : Nat} (a : (entFa G (e, f)).ok K = true)
    (b : (match G.mts.lookup f with
      | none => decide (e.at_ = (e.x, none))
      | some (c, m) => decide (e.at_ = (c, some m))) = true) : Role K mg G f e.x (He.fAd K e.at_) := by
  unfold Role
  unfold entFa at a
  cases q : G.mts.lookup f with
  | none =>
    simp only [q, decide_eq_true_eq] at a b
    rw [b]
    exact He.glo_ok X N a
  | some cm =>
    obtain ⟨c, m⟩ := cm
    simp only [q, decide_eq_true_eq] at a b
    rw [b]
    simp only
    split at a
    · rename_i em
      subst em
      rw [if_pos rfl]
      exact He.mkr_ok a
    · rename_i em
      rw [if_neg em]
      exact He.meth_ok a
def faOf (G : GT) (ents : List (Ent G)) : List He.Fa := (ents.zipIdx.map (entFa G)) ++ (bnames.map He.Fa.free ++ G.gcs.map faC)
def exOf (G : GT) (K : PySem.W.Frag) : Bool := G.gcs.all (exC K) && (xsB K G && ocsB K G)
theorem mem_of_lookup' {α : Type} {x : Str} {v : α} : ∀ {l : List (Str × α)}, l.lookup x = some v → (x, v) ∈ l
  | (y, w) :: r, h => by
    rw [List.lookup_cons] at h
    cases e : x == y with
    | true =>
      rw [e] at h
      cases h
      rw [eq_of_beq e]
      exact List.mem_cons_self
    | false =>
      rw [e] at h
      exact List.mem_cons_of_mem _ (mem_of_lookup' h)
theorem told_of {P : Program} {G : GT} {ents : List (Ent G)} {w : World} {h : Heap} {K : PySem.W.Frag} {mg : Str → Option Value} (hG : G.fns = ents.map fun e => (e.x, e.F.np))
    (c : He.SaysX (faOf G ents) (ents.map Ent.d) [] [] (exOf G) w h K) (X : K.In h) (N : h.Ns mainGlobals mg) (hx : xsP P G = true) (hr : rolB G ents = true) : Told P K mg G ents where
  hG := hG
  fn := fun f e he => by
    have hz : (e, f) ∈ ents.zipIdx := List.mem_zipIdx_iff_getElem?.mpr he
    obtain ⟨fd, F⟩ := He.SaysD.defs c.t.d (List.mem_map.mpr ⟨e, List.mem_of_getElem? he, rfl⟩ : e.d ∈ ents.map Ent.d)
    have g := He.SaysD.facts c.t.d (show entFa G (e, f) ∈ faOf G ents from List.mem_append_left _ (List.mem_map.mpr ⟨(e, f), hz, rfl⟩))
    exact ⟨He.fAd K e.at_, fd, F, role_of X N g (List.all_eq_true.mp hr _ hz)⟩
  unb := fun x hx => He.free_ok X N (He.SaysD.facts c.t.d (show He.Fa.free x ∈ faOf G ents from List.mem_append_right _ (List.mem_append_left _ (List.mem_map.mpr ⟨x, hx, rfl⟩))))
  os := ocs_of X N (Bool.and_eq_true_iff.mp (Bool.and_eq_true_iff.mp c.more).2).2
  xs := xs_of X N (Bool.and_eq_true_iff.mp (Bool.and_eq_true_iff.mp c.more).2).1 hx fun _ => He.free_ok X N (He.SaysD.facts c.t.d (show He.Fa.free "ValueError" ∈ faOf G ents from List.mem_append_right _ (List.mem_append_left _ (List.mem_map.mpr ⟨"ValueError", by simp [bnames], rfl⟩))))
  glb := fun x v hv => by
    have hm := mem_of_lookup' hv
    have f := He.SaysD.facts c.t.d (show faC (x, v) ∈ faOf G ents from List.mem_append_right _ (List.mem_append_right _ (List.mem_map.mpr ⟨(x, v), hm, rfl⟩)))
    have ex := List.all_eq_true.mp (Bool.and_eq_true_iff.mp c.more).1 _ hm
    cases v with
    | str s =>
      obtain ⟨t, e⟩ := He.str_ok X N f
      exact ⟨_, .str (toS s), e, ⟨t, rfl⟩, fun H L => .mk_str (constOk_str ex)⟩
    | int i =>
      obtain ⟨t, e⟩ := He.int_ok X N f
      exact ⟨_, .int i, e, ⟨t, rfl⟩, fun H L => .mk_int⟩
    | tup vs =>
      have ex' : (He.tupB K x (vs.map toDv) && vs.all constOk) = true := ex
      rw [Bool.and_eq_true] at ex'
      exact ⟨_, .ref (He.ga K x), He.glo_ok X N f, rfl, fun H L => .mk_tup (He.tupB_ok ex'.1 H) (rvs_const ex'.2)⟩
    | non => cases ex
    | bl _ => cases ex
    | fro _ => cases ex
    | loc _ => cases ex
    | dct _ => cases ex
/-! ### the Hook: the written part, the statics too -/
def frY (n : Nat) (g : Addr → Option Obj) : PySem.W.Frag := match g cStatics with
  | some o => (cStatics, o) :: He.frT g (He.asD g n)
  | none => He.frT g (He.asD g n)
theorem frY_in {n : Nat} {h : Heap} : (frY n h.get?).In h := by
  intro a o e
  unfold frY at e
  split at e
  · rename_i o' eo
    rw [List.lookup_cons] at e
    cases q : a == cStatics with
    | true =>
      rw [q] at e
      cases e
      rw [eq_of_beq q]
      exact eo
    | false =>
      rw [q] at e
      exact He.frT_in a o e
  · exact He.frT_in a o e
def obsY (n : Nat) (fa : List He.Fa) (fn : List He.DefD) (ex : PySem.W.Frag → Bool) (g : Addr → Option Obj) : He.AlX := (He.obsT fa fn [] (frY n g), ex (frY n g))
def hookY (n : Nat) (fa : List He.Fa) (fn : List He.DefD) (ex : PySem.W.Frag → Bool) : PySem.W.Hook where
  α := He.AlX
  obs := fun s => obsY n fa fn ex s.heap.get?
  val := fun w => He.valX fn [] w
  says := fun w h => ∃ K : PySem.W.Frag, K.In h ∧ He.SaysX fa fn [] [] ex w h K
  of := fun s w e => ⟨_, frY_in, ⟨congrArg (fun z : He.AlX => z.1) e, congrArg (fun z : He.AlX => z.2) e, fun p hp => (by cases hp), fun p hp => (by cases hp), fun p hp => (by cases hp)⟩⟩
  keeps := fun _ _ _ ⟨K, hK, c⟩ k => ⟨K, PySem.W.Frag.In.keeps hK k, ⟨c.t, c.more, c.hd, c.out, fun p hp => (by cases hp)⟩⟩
theorem obsY_eq {n : Nat} {fa : List He.Fa} {fn : List He.DefD} {ex : PySem.W.Frag → Bool} {g : Addr → Option Obj} {s : Shared} (h : ∀ a, g a = s.heap.get? a) : obsY n fa fn ex g = (hookY n fa fn ex).obs s := by
  have e : g = s.heap.get? := funext h
  rw [e] <;> rfl
/-- what a law's def may let out: nothing, as it turns out -/
def CXX (P : Program) : CXT := fun outer H s E u s' => ∃ w, L2.CX P w outer H s E u s'
theorem cxx_no {P : Program} (H : Hp) (s : Shared) (e : Value) (s' : Shared) (h : CXX P [] H s (fun _ _ _ => False) e s') : False := by
  obtain ⟨_, _, _, _, _, _, _, _, _, _, _, _, _, z⟩ := h
  exact z
theorem fnok_cx {P : Program} {w : World} {K : PySem.W.Frag} {mg : Str → Option Value} {base : Heap} {k : Nat} {f : Addr} {fd : FuncData} {ps : List Str} {sp : Sp} (F : FnOk P w K mg base (L2.CX P w) k f fd ps sp) : FnOk P w K mg base (CXX P) k f fd ps sp :=
  ⟨F.len, fun A outer s H args us vs Q E hr he hb hv hs => codeAny_mono (F.run A outer s H args us vs Q E hr he hb hv hs) fun r s' q => by
    cases r with
    | error e => exact ⟨w, q⟩
    | ok fl => cases fl <;> exact q⟩
end Gu
end

section
set_option Elab.async false
set_option linter.all false
set_option maxRecDepth 100000
set_option maxHeartbeats 4000000
/-! the text's defs in the small language (printed by gen.py) -/
namespace Gu
open PySem
abbrev i_Heap___init__ : Nat := 0
abbrev i_Heap_is_full : Nat := 1
abbrev i_Heap_make : Nat := 2
abbrev i_Heap_look : Nat := 3
abbrev i_Heap_store : Nat := 4
abbrev i_Heap_counts : Nat := 5
abbrev i_Heap_minor : Nat := 6
abbrev i_Heap_reached : Nat := 7
abbrev i_Heap_major : Nat := 8
abbrev i_Moving___init__ : Nat := 9
abbrev i_Moving_value : Nat := 10
abbrev i_Moving_adjust : Nat := 11
abbrev i_is_young : Nat := 12
abbrev i_placed : Nat := 13
abbrev i__law_draw : Nat := 14
abbrev i__law_take : Nat := 15
abbrev i__law_object : Nat := 16
abbrev i__law_reached : Nat := 17
abbrev i__law_move : Nat := 18
abbrev i__law_adjust : Nat := 19
abbrev i__law_minor : Nat := 20
abbrev i__law_placed : Nat := 21
abbrev i__law_major : Nat := 22
abbrev i__law_store : Nat := 23
abbrev i__law_some : Nat := 24
abbrev i__law_made : Nat := 25
abbrev i__law_deed : Nat := 26
abbrev i_law : Nat := 27
def b_Heap___init__ : S :=
 (.seq (.fset "Heap" (.var 0) "room" (.var 1))
 (.seq (.fset "Heap" (.var 0) "young" (.lst .nil))
 (.seq (.fset "Heap" (.var 0) "old" (.lst .nil))
 (.seq (.fset "Heap" (.var 0) "remembered" .dnew)
 .skip))))
def b_Heap_is_full : S :=
 (.seq (.ret (.cmp .GtE (.blt .len (.cons (.fld (.var 0) "young") .nil)) (.fld (.var 0) "room")))
 .skip)
def b_Heap_make : S :=
 (.seq (.expr (.mth .append (.fld (.var 0) "young") (.cons (.tup (.cons (.var 1) (.cons (.var 2) (.cons (.blt .tuple (.cons (.var 3) .nil)) .nil)))) .nil)))
 (.seq (.ret (.tup (.cons (.cst (.str [97, 116])) (.cons (.neg (.blt .len (.cons (.fld (.var 0) "young") .nil))) .nil))))
 .skip))
def r_Heap_look_1 : S :=
 (.seq (.ret (.idx (.fld (.var 0) "old") (.var 2)))
 .skip)
def b_Heap_look : S :=
 (.seq (.asg (.nt (.nm 2)) (.idx (.var 1) (.cst (.int 1))))
 (.seq (.ite (.cmp .Lt (.var 2) (.cst (.int 0)))
   (.seq (.ret (.idx (.fld (.var 0) "young") (.bin .Sub (.neg (.var 2)) (.cst (.int 1)))))
   .skip)
   .skip)
 r_Heap_look_1))
def r_Heap_store_1 : S :=
 (.seq (.asg (.sub (.fld (.var 0) "old") (.var 3)) (.tup (.cons (.var 4) (.cons (.var 5) (.cons (.tup (.cons (.var 2) .nil)) .nil)))))
 (.seq (.ite (.call i_is_young (.cons (.var 2) .nil))
   (.seq (.dput (.fld (.var 0) "remembered") (.var 3) (.cst (.bl true)))
   .skip)
   .skip)
 .skip))
def b_Heap_store : S :=
 (.seq (.asg (.nt (.nm 3)) (.idx (.var 1) (.cst (.int 1))))
 (.seq (.asg (.nt (.tp [4, 5, 6])) (.mcl i_Heap_look "Heap" "look" (.var 0) (.cons (.var 1) .nil)))
 (.seq (.ite (.cmp .Lt (.var 3) (.cst (.int 0)))
   (.seq (.asg (.sub (.fld (.var 0) "young") (.bin .Sub (.neg (.var 3)) (.cst (.int 1)))) (.tup (.cons (.var 4) (.cons (.var 5) (.cons (.tup (.cons (.var 2) .nil)) .nil)))))
   (.seq .retn
   .skip))
   .skip)
 r_Heap_store_1)))
def b_Heap_counts : S :=
 (.seq (.ret (.tup (.cons (.blt .len (.cons (.fld (.var 0) "young") .nil)) (.cons (.blt .len (.cons (.fld (.var 0) "old") .nil)) (.cons (.blt .len (.cons (.fld (.var 0) "remembered") .nil)) .nil)))))
 .skip)
def w_Heap_minor_1 : S :=
 (.seq (.expr (.mcl i_Moving_adjust "Moving" "adjust" (.var 2) (.cons (.var 6) .nil)))
 .skip)
def w_Heap_minor_2 : S :=
 (.seq (.expr (.mcl i_Moving_adjust "Moving" "adjust" (.var 2) (.cons (.var 3) .nil)))
 (.seq (.aug 3 .Add (.cst (.int 1)))
 .skip))
def r_Heap_minor_3 : S :=
 (.seq (.fset "Heap" (.var 0) "young" (.lst .nil))
 (.seq (.fset "Heap" (.var 0) "remembered" .dnew)
 (.seq (.ret (.var 4))
 .skip)))
def r_Heap_minor_4 : S :=
 (.seq (.whl (.cmp .Lt (.var 3) (.blt .len (.cons (.fld (.var 0) "old") .nil)))
   w_Heap_minor_2)
 r_Heap_minor_3)
def b_Heap_minor : S :=
 (.seq (.asg (.nt (.nm 2)) (.new i_Moving___init__ "Moving" (.cons (.var 0) .nil)))
 (.seq (.asg (.nt (.nm 3)) (.blt .len (.cons (.fld (.var 0) "old") .nil)))
 (.seq (.asg (.nt (.nm 4)) (.blt .tuple (.cons (.lc [5] (.nm 5) (.var 1) .nil (.mcl i_Moving_value "Moving" "value" (.var 2) (.cons (.var 5) .nil))) .nil)))
 (.seq (.for_ (.nm 6) (.blt .sorted (.cons (.fld (.var 0) "remembered") .nil))
   w_Heap_minor_1)
 r_Heap_minor_4))))
def w_Heap_reached_1 : S :=
 (.seq (.asg (.nt (.nm 4)) (.mth .pop (.var 3) .nil))
 (.seq (.ite (.and_ (.cmp .Eq (.idx (.var 4) (.cst (.int 0))) (.cst (.str [97, 116]))) (.din true (.idx (.var 4) (.cst (.int 1))) (.var 2)))
   (.seq (.dput (.var 2) (.idx (.var 4) (.cst (.int 1))) (.cst (.bl true)))
   (.seq (.expr (.mth .extend (.var 3) (.cons (.idx (.idx (.fld (.var 0) "old") (.idx (.var 4) (.cst (.int 1)))) (.cst (.int 2))) .nil)))
   .skip))
   .skip)
 .skip))
def r_Heap_reached_2 : S :=
 (.seq (.ret (.blt .sorted (.cons (.var 2) .nil)))
 .skip)
def b_Heap_reached : S :=
 (.seq (.asg (.nt (.nm 2)) .dnew)
 (.seq (.asg (.nt (.nm 3)) (.blt .list (.cons (.var 1) .nil)))
 (.seq (.whl (.var 3)
   w_Heap_reached_1)
 r_Heap_reached_2)))
def w_Heap_major_1 : S :=
 (.seq (.asg (.nt (.tp [7, 8, 9])) (.idx (.fld (.var 0) "old") (.var 5)))
 (.seq (.expr (.mth .append (.var 6) (.cons (.tup (.cons (.var 7) (.cons (.var 8) (.cons (.blt .tuple (.cons (.lc [10] (.nm 10) (.var 9) .nil (.call i_placed (.cons (.var 10) (.cons (.var 3) .nil)))) .nil)) .nil)))) .nil)))
 .skip))
def r_Heap_major_2 : S :=
 (.seq (.fset "Heap" (.var 0) "old" (.var 6))
 (.seq (.ret (.blt .tuple (.cons (.lc [11] (.nm 11) (.var 1) .nil (.call i_placed (.cons (.var 11) (.cons (.var 3) .nil)))) .nil)))
 .skip))
def b_Heap_major : S :=
 (.seq (.asg (.nt (.nm 1)) (.mcl i_Heap_minor "Heap" "minor" (.var 0) (.cons (.var 1) .nil)))
 (.seq (.asg (.nt (.nm 2)) (.mcl i_Heap_reached "Heap" "reached" (.var 0) (.cons (.var 1) .nil)))
 (.seq (.asg (.nt (.nm 3)) (.dc [4, 5] (.tp [4, 5]) (.enm (.var 2)) .nil (.var 5) (.var 4)))
 (.seq (.asg (.nt (.nm 6)) (.lst .nil))
 (.seq (.for_ (.nm 5) (.var 2)
   w_Heap_major_1)
 r_Heap_major_2)))))
def b_Moving___init__ : S :=
 (.seq (.fset "Moving" (.var 0) "heap" (.var 1))
 (.seq (.fset "Moving" (.var 0) "places" .dnew)
 .skip))
def r_Moving_value_1 : S :=
 (.seq (.ret (.tup (.cons (.cst (.str [97, 116])) (.cons (.dget (.fld (.var 0) "places") (.idx (.var 1) (.cst (.int 1)))) .nil))))
 .skip)
def r_Moving_value_2 : S :=
 (.seq (.ite (.din true (.idx (.var 1) (.cst (.int 1))) (.fld (.var 0) "places"))
   (.seq (.expr (.mth .append (.fld (.fld (.var 0) "heap") "old") (.cons (.mcl i_Heap_look "Heap" "look" (.fld (.var 0) "heap") (.cons (.var 1) .nil)) .nil)))
   (.seq (.dput (.fld (.var 0) "places") (.idx (.var 1) (.cst (.int 1))) (.bin .Sub (.blt .len (.cons (.fld (.fld (.var 0) "heap") "old") .nil)) (.cst (.int 1))))
   .skip))
   .skip)
 r_Moving_value_1)
def b_Moving_value : S :=
 (.seq (.ite (.not_ (.call i_is_young (.cons (.var 1) .nil)))
   (.seq (.ret (.var 1))
   .skip)
   .skip)
 r_Moving_value_2)
def b_Moving_adjust : S :=
 (.seq (.asg (.nt (.tp [2, 3, 4])) (.idx (.fld (.fld (.var 0) "heap") "old") (.var 1)))
 (.seq (.asg (.sub (.fld (.fld (.var 0) "heap") "old") (.var 1)) (.tup (.cons (.var 2) (.cons (.var 3) (.cons (.blt .tuple (.cons (.lc [5] (.nm 5) (.var 4) .nil (.mcl i_Moving_value "Moving" "value" (.var 0) (.cons (.var 5) .nil))) .nil)) .nil)))))
 .skip))
def b_is_young : S :=
 (.seq (.ret (.and_ (.cmp .Eq (.idx (.var 0) (.cst (.int 0))) (.cst (.str [97, 116]))) (.cmp .Lt (.idx (.var 0) (.cst (.int 1))) (.cst (.int 0)))))
 .skip)
def r_placed_1 : S :=
 (.seq (.ret (.var 0))
 .skip)
def b_placed : S :=
 (.seq (.ite (.cmp .Eq (.idx (.var 0) (.cst (.int 0))) (.cst (.str [97, 116])))
   (.seq (.ret (.tup (.cons (.cst (.str [97, 116])) (.cons (.dget (.var 1) (.idx (.var 0) (.cst (.int 1)))) .nil))))
   .skip)
   .skip)
 r_placed_1)
def w__law_draw_1 : S :=
 (.seq (.asg (.nt (.nm 1)) (.bin .Mod (.blt .int (.cons (.bin .Add (.bin .Mult (.var 1) (.cst (.int 69621))) (.blt .abs (.cons (.blt .int (.cons (.var 2) .nil)) .nil))) .nil)) (.cst (.int 2147483647))))
 .skip)
def r__law_draw_2 : S :=
 (.seq (.ret (.lst (.cons (.var 3) (.cons (.bin .Mod (.blt .int (.cons (.bin .Add (.bin .Mult (.var 1) (.cst (.int 48271))) (.cst (.int 7))) .nil)) (.cst (.int 2147483647))) .nil))))
 .skip)
def r__law_draw_3 : S :=
 (.seq (.asg (.nt (.nm 3)) (.cst (.int 0)))
 (.seq (.ite (.and_ (.cmp .Gt (.blt .len (.cons (.var 0) .nil)) (.cst (.int 0))) (.cmp .GtE (.blt .int (.cons (.idx (.var 0) (.cst (.int 0))) .nil)) (.bin .Pow (.cst (.int 10)) (.cst (.int 18)))))
   (.seq (.asg (.nt (.nm 3)) (.blt .int (.cons (.idx (.var 0) (.cst (.int 0))) .nil)))
   .skip)
   .skip)
 r__law_draw_2))
def b__law_draw : S :=
 (.seq (.asg (.nt (.nm 1)) (.cst (.int 12345)))
 (.seq (.for_ (.nm 2) (.var 0)
   w__law_draw_1)
 r__law_draw_3))
def r__law_take_1 : S :=
 (.seq (.asg (.sub (.var 0) (.cst (.int 1))) (.bin .Mod (.blt .int (.cons (.bin .Add (.bin .Mult (.idx (.var 0) (.cst (.int 1))) (.cst (.int 48271))) (.cst (.int 11))) .nil)) (.cst (.int 2147483647))))
 (.seq (.ret (.bin .Mod (.blt .int (.cons (.bin .FloorDiv (.idx (.var 0) (.cst (.int 1))) (.cst (.int 7))) .nil)) (.var 1)))
 .skip))
def b__law_take : S :=
 (.seq (.ite (.cmp .Gt (.idx (.var 0) (.cst (.int 0))) (.cst (.int 0)))
   (.seq (.asg (.nt (.nm 2)) (.bin .Mod (.blt .int (.cons (.idx (.var 0) (.cst (.int 0))) .nil)) (.var 1)))
   (.seq (.asg (.sub (.var 0) (.cst (.int 0))) (.bin .FloorDiv (.idx (.var 0) (.cst (.int 0))) (.var 1)))
   (.seq (.ret (.var 2))
   .skip)))
   .skip)
 r__law_take_1)
def r__law_object_1 : S :=
 (.seq (.ret (.idx (.idx (.var 1) (.cst (.int 1))) (.idx (.var 0) (.cst (.int 1)))))
 .skip)
def b__law_object : S :=
 (.seq (.ite (.cmp .Lt (.idx (.var 0) (.cst (.int 1))) (.cst (.int 0)))
   (.seq (.ret (.idx (.idx (.var 1) (.cst (.int 0))) (.bin .Sub (.neg (.idx (.var 0) (.cst (.int 1)))) (.cst (.int 1)))))
   .skip)
   .skip)
 r__law_object_1)
def r__law_reached_1 : S :=
 (.seq (.asg (.nt (.nm 6)) (.mth .pop (.var 3) .nil))
 (.seq (.ite (.cmp .NotIn (.var 6) (.var 2))
   (.seq (.expr (.mth .append (.var 2) (.cons (.var 6) .nil)))
   (.seq (.expr (.mth .extend (.var 3) (.cons (.lc [7] (.nm 7) (.idx (.call i__law_object (.cons (.var 6) (.cons (.var 1) .nil))) (.cst (.int 2))) (.cons (.cmp .Eq (.idx (.var 7) (.cst (.int 0))) (.cst (.str [97, 116]))) .nil) (.var 7)) .nil)))
   .skip))
   .skip)
 .skip))
def w__law_reached_2 : S :=
 (.seq (.ite (.cmp .Eq (.blt .len (.cons (.var 3) .nil)) (.cst (.int 0)))
   (.seq (.ret (.var 2))
   .skip)
   .skip)
 r__law_reached_1)
def r__law_reached_3 : S :=
 (.seq (.ret (.var 2))
 .skip)
def b__law_reached : S :=
 (.seq (.asg (.nt (.nm 2)) (.lst .nil))
 (.seq (.asg (.nt (.nm 3)) (.lc [4] (.nm 4) (.var 0) (.cons (.cmp .Eq (.idx (.var 4) (.cst (.int 0))) (.cst (.str [97, 116]))) .nil) (.var 4)))
 (.seq (.for_ (.nm 5) (.rng1 (.cst (.int 3000)))
   w__law_reached_2)
 r__law_reached_3)))
def r__law_move_1 : S :=
 (.seq (.ret (.tup (.cons (.cst (.str [97, 116])) (.cons (.dget (.var 2) (.idx (.var 0) (.cst (.int 1)))) .nil))))
 .skip)
def r__law_move_2 : S :=
 (.seq (.ite (.din true (.idx (.var 0) (.cst (.int 1))) (.var 2))
   (.seq (.expr (.mth .append (.idx (.var 1) (.cst (.int 1))) (.cons (.idx (.idx (.var 1) (.cst (.int 0))) (.bin .Sub (.neg (.idx (.var 0) (.cst (.int 1)))) (.cst (.int 1)))) .nil)))
   (.seq (.dput (.var 2) (.idx (.var 0) (.cst (.int 1))) (.bin .Sub (.blt .len (.cons (.idx (.var 1) (.cst (.int 1))) .nil)) (.cst (.int 1))))
   .skip))
   .skip)
 r__law_move_1)
def b__law_move : S :=
 (.seq (.ite (.or_ (.cmp .NotEq (.idx (.var 0) (.cst (.int 0))) (.cst (.str [97, 116]))) (.cmp .GtE (.idx (.var 0) (.cst (.int 1))) (.cst (.int 0))))
   (.seq (.ret (.var 0))
   .skip)
   .skip)
 r__law_move_2)
def b__law_adjust : S :=
 (.seq (.asg (.nt (.nm 3)) (.idx (.idx (.var 1) (.cst (.int 1))) (.var 0)))
 (.seq (.asg (.sub (.idx (.var 1) (.cst (.int 1))) (.var 0)) (.tup (.cons (.idx (.var 3) (.cst (.int 0))) (.cons (.idx (.var 3) (.cst (.int 1))) (.cons (.blt .tuple (.cons (.lc [4] (.nm 4) (.idx (.var 3) (.cst (.int 2))) .nil (.call i__law_move (.cons (.var 4) (.cons (.var 1) (.cons (.var 2) .nil))))) .nil)) .nil)))))
 .skip))
def w__law_minor_1 : S :=
 (.seq (.expr (.call i__law_adjust (.cons (.var 5) (.cons (.var 1) (.cons (.var 2) .nil)))))
 .skip)
def w__law_minor_2 : S :=
 (.seq (.ite (.cmp .Lt (.var 3) (.blt .len (.cons (.idx (.var 1) (.cst (.int 1))) .nil)))
   (.seq (.expr (.call i__law_adjust (.cons (.var 3) (.cons (.var 1) (.cons (.var 2) .nil)))))
   (.seq (.asg (.nt (.nm 3)) (.bin .Add (.var 3) (.cst (.int 1))))
   .skip))
   .skip)
 .skip)
def r__law_minor_3 : S :=
 (.seq (.asg (.sub (.var 1) (.cst (.int 0))) (.lst .nil))
 (.seq (.asg (.sub (.var 1) (.cst (.int 2))) (.lst .nil))
 (.seq (.ret (.var 0))
 .skip)))
def r__law_minor_4 : S :=
 (.seq (.for_ (.nm 6) (.rng1 (.cst (.int 3000)))
   w__law_minor_2)
 r__law_minor_3)
def b__law_minor : S :=
 (.seq (.asg (.nt (.nm 2)) .dnew)
 (.seq (.asg (.nt (.nm 3)) (.blt .len (.cons (.idx (.var 1) (.cst (.int 1))) .nil)))
 (.seq (.asg (.nt (.nm 0)) (.lc [4] (.nm 4) (.var 0) .nil (.call i__law_move (.cons (.var 4) (.cons (.var 1) (.cons (.var 2) .nil))))))
 (.seq (.for_ (.nm 5) (.blt .sorted (.cons (.idx (.var 1) (.cst (.int 2))) .nil))
   w__law_minor_1)
 r__law_minor_4))))
def r__law_placed_1 : S :=
 (.seq (.ret (.tup (.cons (.cst (.str [97, 116])) (.cons (.mth .lidx (.var 1) (.cons (.idx (.var 0) (.cst (.int 1))) .nil)) .nil))))
 .skip)
def b__law_placed : S :=
 (.seq (.ite (.cmp .NotEq (.idx (.var 0) (.cst (.int 0))) (.cst (.str [97, 116])))
   (.seq (.ret (.var 0))
   .skip)
   .skip)
 r__law_placed_1)
def w__law_major_1 : S :=
 (.seq (.asg (.nt (.nm 6)) (.idx (.idx (.var 1) (.cst (.int 1))) (.var 5)))
 (.seq (.expr (.mth .append (.var 4) (.cons (.tup (.cons (.idx (.var 6) (.cst (.int 0))) (.cons (.idx (.var 6) (.cst (.int 1))) (.cons (.blt .tuple (.cons (.lc [7] (.nm 7) (.idx (.var 6) (.cst (.int 2))) .nil (.call i__law_placed (.cons (.var 7) (.cons (.var 2) .nil)))) .nil)) .nil)))) .nil)))
 .skip))
def r__law_major_2 : S :=
 (.seq (.asg (.sub (.var 1) (.cst (.int 1))) (.var 4))
 (.seq (.ret (.lc [8] (.nm 8) (.var 0) .nil (.call i__law_placed (.cons (.var 8) (.cons (.var 2) .nil)))))
 .skip))
def b__law_major : S :=
 (.seq (.asg (.nt (.nm 0)) (.call i__law_minor (.cons (.var 0) (.cons (.var 1) .nil))))
 (.seq (.asg (.nt (.nm 2)) (.blt .sorted (.cons (.lc [3] (.nm 3) (.call i__law_reached (.cons (.var 0) (.cons (.var 1) .nil))) .nil (.idx (.var 3) (.cst (.int 1)))) .nil)))
 (.seq (.asg (.nt (.nm 4)) (.lst .nil))
 (.seq (.for_ (.nm 5) (.var 2)
   w__law_major_1)
 r__law_major_2))))
def r__law_store_1 : S :=
 (.seq (.asg (.sub (.idx (.var 2) (.cst (.int 1))) (.idx (.var 0) (.cst (.int 1)))) (.tup (.cons (.idx (.var 3) (.cst (.int 0))) (.cons (.idx (.var 3) (.cst (.int 1))) (.cons (.tup (.cons (.var 1) .nil)) .nil)))))
 (.seq (.ite (.and_ (.cmp .Eq (.idx (.var 1) (.cst (.int 0))) (.cst (.str [97, 116]))) (.and_ (.cmp .Lt (.idx (.var 1) (.cst (.int 1))) (.cst (.int 0))) (.cmp .NotIn (.idx (.var 0) (.cst (.int 1))) (.idx (.var 2) (.cst (.int 2))))))
   (.seq (.expr (.mth .append (.idx (.var 2) (.cst (.int 2))) (.cons (.idx (.var 0) (.cst (.int 1))) .nil)))
   .skip)
   .skip)
 .skip))
def b__law_store : S :=
 (.seq (.asg (.nt (.nm 3)) (.call i__law_object (.cons (.var 0) (.cons (.var 2) .nil))))
 (.seq (.ite (.cmp .Lt (.idx (.var 0) (.cst (.int 1))) (.cst (.int 0)))
   (.seq (.asg (.sub (.idx (.var 2) (.cst (.int 0))) (.bin .Sub (.neg (.idx (.var 0) (.cst (.int 1)))) (.cst (.int 1)))) (.tup (.cons (.idx (.var 3) (.cst (.int 0))) (.cons (.idx (.var 3) (.cst (.int 1))) (.cons (.tup (.cons (.var 1) .nil)) .nil)))))
   (.seq .retn
   .skip))
   .skip)
 r__law_store_1))
def r__law_some_1 : S :=
 (.seq (.ret (.idx (.lst (.cons (.tup (.cons (.cst (.str [105, 110, 116])) (.cons (.bin .Sub (.call i__law_take (.cons (.var 0) (.cons (.cst (.int 9)) .nil))) (.cst (.int 4))) .nil))) (.cons (.tup (.cons (.cst (.str [116, 97, 103])) (.cons (.call i__law_take (.cons (.var 0) (.cons (.cst (.int 3)) .nil))) .nil))) .nil))) (.call i__law_take (.cons (.var 0) (.cons (.cst (.int 2)) .nil)))))
 .skip)
def b__law_some : S :=
 (.seq (.ite (.and_ (.cmp .Gt (.blt .len (.cons (.var 1) .nil)) (.cst (.int 0))) (.cmp .Gt (.call i__law_take (.cons (.var 0) (.cons (.cst (.int 4)) .nil))) (.cst (.int 0))))
   (.seq (.ret (.idx (.var 1) (.call i__law_take (.cons (.var 0) (.cons (.blt .len (.cons (.var 1) .nil)) .nil)))))
   .skip)
   .skip)
 r__law_some_1)
def r__law_made_1 : S :=
 (.seq (.ret (.tup (.cons (.cst (.str [114, 101, 102])) (.cons (.cst (.int 0)) (.cons (.tup (.cons (.var 3) .nil)) .nil)))))
 .skip)
def r__law_made_2 : S :=
 (.seq (.ite (.cmp .Eq (.var 2) (.cst (.int 4)))
   (.seq (.ret (.tup (.cons (.cst (.str [99, 108, 111, 115, 101])) (.cons (.call i__law_take (.cons (.var 0) (.cons (.cst (.int 5)) .nil))) (.cons (.tup (.cons (.var 3) .nil)) .nil)))))
   .skip)
   .skip)
 r__law_made_1)
def r__law_made_3 : S :=
 (.seq (.ite (.cmp .Eq (.var 2) (.cst (.int 3)))
   (.seq (.ret (.tup (.cons (.cst (.str [112, 97, 99, 107])) (.cons (.call i__law_take (.cons (.var 0) (.cons (.cst (.int 6)) .nil))) (.cons (.slc (.tup (.cons (.var 3) .nil)) .nil (.call i__law_take (.cons (.var 0) (.cons (.cst (.int 2)) .nil)))) .nil)))))
   .skip)
   .skip)
 r__law_made_2)
def r__law_made_4 : S :=
 (.seq (.ite (.cmp .Eq (.var 2) (.cst (.int 2)))
   (.seq (.ret (.tup (.cons (.cst (.str [109, 97, 107, 101])) (.cons (.call i__law_take (.cons (.var 0) (.cons (.cst (.int 4)) .nil))) (.cons (.tup (.cons (.var 3) .nil)) .nil)))))
   .skip)
   .skip)
 r__law_made_3)
def r__law_made_5 : S :=
 (.seq (.ite (.cmp .Eq (.var 2) (.cst (.int 1)))
   (.seq (.ret (.tup (.cons (.cst (.str [116, 117, 112, 108, 101])) (.cons (.cst (.int 0)) (.cons (.blt .tuple (.cons (.lc [4] (.nm 4) (.rng1 (.bin .Add (.cst (.int 1)) (.call i__law_take (.cons (.var 0) (.cons (.cst (.int 4)) .nil))))) .nil (.call i__law_some (.cons (.var 0) (.cons (.var 1) .nil)))) .nil)) .nil)))))
   .skip)
   .skip)
 r__law_made_4)
def b__law_made : S :=
 (.seq (.asg (.nt (.nm 2)) (.call i__law_take (.cons (.var 0) (.cons (.cst (.int 7)) .nil))))
 (.seq (.asg (.nt (.nm 3)) (.call i__law_some (.cons (.var 0) (.cons (.var 1) .nil))))
 (.seq (.ite (.cmp .Eq (.var 2) (.cst (.int 0)))
   (.seq (.ret (.tup (.cons (.cst (.str [115, 116, 114, 105, 110, 103])) (.cons (.bin .Mult (.cst (.str [115])) (.call i__law_take (.cons (.var 0) (.cons (.cst (.int 3)) .nil)))) (.cons (.tup .nil) .nil)))))
   .skip)
   .skip)
 r__law_made_5)))
def r__law_deed_1 : S :=
 (.seq (.asg (.nt (.nm 3)) (.stp (.slc (.var 13) .nil (.blt .len (.cons (.var 3) .nil))) (.bin .Sub (.cst (.int 1)) (.bin .Mult (.cst (.int 2)) (.blt .int (.cons (.cmp .Gt (.blt .len (.cons (.var 11) .nil)) (.blt .len (.cons (.var 3) .nil))) .nil))))))
 (.seq (.ret (.tup (.cons (.var 3) (.cons (.cmp .Eq (.var 12) (.blt .tuple (.cons (.var 13) .nil))) .nil))))
 .skip))
def r__law_deed_2 : S :=
 (.seq (.ite (.cmp .Eq (.var 5) (.cst (.int 4)))
   (.seq (.asg (.nt (.nm 12)) (.mcl i_Heap_major "Heap" "major" (.var 1) (.cons (.blt .tuple (.cons (.var 11) .nil)) .nil)))
   (.seq (.asg (.nt (.nm 13)) (.call i__law_major (.cons (.var 11) (.cons (.var 2) .nil))))
   .skip))
   (.seq (.asg (.nt (.nm 12)) (.mcl i_Heap_minor "Heap" "minor" (.var 1) (.cons (.blt .tuple (.cons (.var 11) .nil)) .nil)))
   (.seq (.asg (.nt (.nm 13)) (.call i__law_minor (.cons (.var 11) (.cons (.var 2) .nil))))
   .skip)))
 r__law_deed_1)
def r__law_deed_3 : S :=
 (.seq (.asg (.nt (.nm 14)) (.call i__law_made (.cons (.var 0) (.cons (.var 3) .nil))))
 (.seq (.expr (.mth .append (.idx (.var 2) (.cst (.int 0))) (.cons (.var 14) .nil)))
 (.seq (.asg (.nt (.nm 9)) (.tup (.cons (.cst (.str [97, 116])) (.cons (.neg (.blt .len (.cons (.idx (.var 2) (.cst (.int 0))) .nil))) .nil))))
 (.seq (.ret (.tup (.cons (.slc (.bin .Add (.var 3) (.lst (.cons (.var 9) .nil))) (.neg (.cst (.int 8))) .nil) (.cons (.cmp .Eq (.mcl i_Heap_make "Heap" "make" (.var 1) (.cons (.idx (.var 14) (.cst (.int 0))) (.cons (.idx (.var 14) (.cst (.int 1))) (.cons (.idx (.var 14) (.cst (.int 2))) .nil)))) (.var 9)) .nil))))
 .skip))))
def r__law_deed_4 : S :=
 (.seq (.ite (.cmp .Eq (.blt .len (.cons (.idx (.var 2) (.cst (.int 0))) .nil)) (.var 4))
   (.seq (.ret (.tup (.cons (.var 3) (.cons (.cst (.bl true)) .nil))))
   .skip)
   .skip)
 r__law_deed_3)
def r__law_deed_5 : S :=
 (.seq (.ite (.or_ (.cmp .In (.var 5) (.tup (.cons (.cst (.int 3)) (.cons (.cst (.int 4)) .nil)))) (.and_ (.cmp .Eq (.blt .len (.cons (.idx (.var 2) (.cst (.int 0))) .nil)) (.var 4)) (.cmp .Gt (.var 5) (.cst (.int 4)))))
   (.seq (.asg (.nt (.nm 11)) (.var 3))
   (.seq (.ite (.cmp .Eq (.call i__law_take (.cons (.var 0) (.cons (.cst (.int 3)) .nil))) (.cst (.int 0)))
     (.seq (.asg (.nt (.nm 11)) (.bin .Add (.bin .Add (.rev (.var 3)) (.slc (.var 3) .nil (.cst (.int 1)))) (.lst (.cons (.tup (.cons (.cst (.str [105, 110, 116])) (.cons (.cst (.int 5)) .nil))) (.cons (.tup (.cons (.cst (.str [116, 97, 103])) (.cons (.cst (.int 1)) .nil))) .nil)))))
     .skip)
     .skip)
   r__law_deed_2))
   .skip)
 r__law_deed_4)
def r__law_deed_6 : S :=
 (.seq (.ite (.and_ (.cmp .Lt (.var 5) (.cst (.int 3))) (.cmp .Gt (.blt .len (.cons (.var 6) .nil)) (.cst (.int 0))))
   (.seq (.asg (.nt (.nm 9)) (.idx (.var 6) (.call i__law_take (.cons (.var 0) (.cons (.blt .len (.cons (.var 6) .nil)) .nil)))))
   (.seq (.asg (.nt (.nm 10)) (.call i__law_some (.cons (.var 0) (.cons (.var 3) .nil))))
   (.seq (.expr (.mcl i_Heap_store "Heap" "store" (.var 1) (.cons (.var 9) (.cons (.var 10) .nil))))
   (.seq (.expr (.call i__law_store (.cons (.var 9) (.cons (.var 10) (.cons (.var 2) .nil)))))
   (.seq (.ret (.tup (.cons (.var 3) (.cons (.cst (.bl true)) .nil))))
   .skip)))))
   .skip)
 r__law_deed_5)
def b__law_deed : S :=
 (.seq (.asg (.nt (.nm 5)) (.call i__law_take (.cons (.var 0) (.cons (.cst (.int 9)) .nil))))
 (.seq (.asg (.nt (.nm 6)) (.lc [7] (.nm 7) (.var 3) (.cons (.and_ (.cmp .Eq (.idx (.var 7) (.cst (.int 0))) (.cst (.str [97, 116]))) (.cmp .Eq (.idx (.call i__law_object (.cons (.var 7) (.cons (.var 2) .nil))) (.cst (.int 0))) (.cst (.str [114, 101, 102])))) .nil) (.var 7)))
 (.seq (.ite (.and_ (.cmp .Eq (.var 5) (.cst (.int 0))) (.cmp .Gt (.blt .len (.cons (.var 3) .nil)) (.cst (.int 0))))
   (.seq (.asg (.nt (.nm 8)) (.call i__law_take (.cons (.var 0) (.cons (.blt .len (.cons (.var 3) .nil)) .nil))))
   (.seq (.ret (.tup (.cons (.bin .Add (.slc (.var 3) .nil (.var 8)) (.slc (.var 3) (.bin .Add (.var 8) (.cst (.int 1))) .nil)) (.cons (.cst (.bl true)) .nil))))
   .skip))
   .skip)
 r__law_deed_6)))
def w_law_1 : S :=
 (.seq (.asg (.nt (.nm 4)) (.bin .Add (.cst (.int 1)) (.call i__law_take (.cons (.var 1) (.cons (.cst (.int 9)) .nil)))))
 (.seq (.expr (.mth .append (.var 2) (.cons (.lst (.cons (.new i_Heap___init__ "Heap" (.cons (.var 4) .nil)) (.cons (.lst (.cons (.lst .nil) (.cons (.lst .nil) (.cons (.lst .nil) .nil)))) (.cons (.lst .nil) (.cons (.var 4) .nil))))) .nil)))
 .skip))
def r_law_2 : S :=
 (.seq (.asg (.nt (.nm 10)) (.mcl i_Heap_is_full "Heap" "is_full" (.var 7) .nil))
 (.seq (.ite (.or_ (.not_ (.isi .bool (.var 10))) (.cmp .NotEq (.var 10) (.cmp .Eq (.blt .len (.cons (.idx (.var 8) (.cst (.int 0))) .nil)) (.var 4))))
   (.seq (.ret (.cst (.bl false)))
   .skip)
   .skip)
 .skip))
def w_law_3 : S :=
 (.seq (.ite (.cmp .NotEq (.mcl i_Heap_counts "Heap" "counts" (.var 7) .nil) (.tup (.cons (.blt .len (.cons (.idx (.var 8) (.cst (.int 0))) .nil)) (.cons (.blt .len (.cons (.idx (.var 8) (.cst (.int 1))) .nil)) (.cons (.blt .len (.cons (.idx (.var 8) (.cst (.int 2))) .nil)) .nil)))))
   (.seq (.ret (.cst (.bl false)))
   .skip)
   .skip)
 r_law_2)
def w_law_4 : S :=
 (.seq (.ite (.cmp .NotEq (.mcl i_Heap_look "Heap" "look" (.idx (.var 5) (.cst (.int 0))) (.cons (.var 11) .nil)) (.call i__law_object (.cons (.var 11) (.cons (.idx (.var 5) (.cst (.int 1))) .nil))))
   (.seq (.ret (.cst (.bl false)))
   .skip)
   .skip)
 .skip)
def r_law_5 : S :=
 (.seq (.for_ (.nm 11) (.call i__law_reached (.cons (.idx (.var 5) (.cst (.int 2))) (.cons (.idx (.var 5) (.cst (.int 1))) .nil)))
   w_law_4)
 .skip)
def r_law_6 : S :=
 (.seq (.forU [7, 8, 9, 4] (.var 2)
   w_law_3)
 r_law_5)
def w_law_7 : S :=
 (.seq (.asg (.nt (.nm 5)) (.idx (.var 2) (.blt .int (.cons (.cmp .Eq (.call i__law_take (.cons (.var 1) (.cons (.cst (.int 5)) .nil))) (.cst (.int 0))) .nil))))
 (.seq (.asg (.sn (.var 5) (.cst (.int 2)) 6) (.call i__law_deed (.cons (.var 1) (.cons (.idx (.var 5) (.cst (.int 0))) (.cons (.idx (.var 5) (.cst (.int 1))) (.cons (.idx (.var 5) (.cst (.int 2))) (.cons (.idx (.var 5) (.cst (.int 3))) .nil)))))))
 (.seq (.ite (.not_ (.var 6))
   (.seq (.ret (.cst (.bl false)))
   .skip)
   .skip)
 r_law_6)))
def w_law_8 : S :=
 (.seq (.ite (.cmp .NotEq (.mcl i_Heap_look "Heap" "look" (.var 7) (.cons (.var 11) .nil)) (.call i__law_object (.cons (.var 11) (.cons (.var 8) .nil))))
   (.seq (.ret (.cst (.bl false)))
   .skip)
   .skip)
 .skip)
def w_law_9 : S :=
 (.seq (.for_ (.nm 11) (.call i__law_reached (.cons (.var 9) (.cons (.var 8) .nil)))
   w_law_8)
 .skip)
def r_law_10 : S :=
 (.seq (.ret (.cst (.bl true)))
 .skip)
def r_law_11 : S :=
 (.seq (.forU [7, 8, 9, 4] (.var 2)
   w_law_9)
 r_law_10)
def r_law_12 : S :=
 (.seq (.for_ (.nm 3) (.rng1 (.bin .Add (.cst (.int 5)) (.call i__law_take (.cons (.var 1) (.cons (.cst (.int 60)) .nil)))))
   w_law_7)
 r_law_11)
def b_law : S :=
 (.seq (.asg (.nt (.nm 1)) (.call i__law_draw (.cons (.var 0) .nil)))
 (.seq (.asg (.nt (.nm 2)) (.lst .nil))
 (.seq (.for_ (.nm 3) (.rng1 (.cst (.int 2)))
   w_law_1)
 r_law_12)))
def ft : List Fn := [⟨2, 2, b_Heap___init__⟩, ⟨1, 1, b_Heap_is_full⟩, ⟨4, 4, b_Heap_make⟩, ⟨2, 3, b_Heap_look⟩, ⟨3, 7, b_Heap_store⟩, ⟨1, 1, b_Heap_counts⟩, ⟨2, 7, b_Heap_minor⟩, ⟨2, 5, b_Heap_reached⟩, ⟨2, 12, b_Heap_major⟩, ⟨2, 2, b_Moving___init__⟩, ⟨2, 2, b_Moving_value⟩, ⟨2, 6, b_Moving_adjust⟩, ⟨1, 1, b_is_young⟩, ⟨2, 2, b_placed⟩, ⟨1, 4, b__law_draw⟩, ⟨2, 3, b__law_take⟩, ⟨2, 2, b__law_object⟩, ⟨2, 8, b__law_reached⟩, ⟨3, 3, b__law_move⟩, ⟨3, 5, b__law_adjust⟩, ⟨2, 7, b__law_minor⟩, ⟨2, 2, b__law_placed⟩, ⟨2, 9, b__law_major⟩, ⟨3, 4, b__law_store⟩, ⟨2, 2, b__law_some⟩, ⟨2, 5, b__law_made⟩, ⟨5, 15, b__law_deed⟩, ⟨1, 12, b_law⟩]
end Gu
end

section
set_option Elab.async false
set_option linter.all false
set_option maxRecDepth 100000
set_option maxHeartbeats 4000000
namespace Gu
open PySem PySem.Spec PyProof.Rows L2
def topS (i : Nat) : Stmt := PySem.Challenge.pw_guanaco_k56_heap_by_a_model.main.body.getD i (.Pass ⟨0, 0, 0, 0⟩)
def metS (i j : Nat) : Stmt := match topS i with
  | .ClassDef _ _ _ body _ _ _ _ _ _ _ => body.getD j (.Pass ⟨0, 0, 0, 0⟩)
  | _ => .Pass ⟨0, 0, 0, 0⟩
def G : GT := { fns := [(("Heap.__init__" : PySem.Str), 2), (("Heap.is_full" : PySem.Str), 1), (("Heap.make" : PySem.Str), 4), (("Heap.look" : PySem.Str), 2), (("Heap.store" : PySem.Str), 3), (("Heap.counts" : PySem.Str), 1), (("Heap.minor" : PySem.Str), 2), (("Heap.reached" : PySem.Str), 2), (("Heap.major" : PySem.Str), 2), (("Moving.__init__" : PySem.Str), 2), (("Moving.value" : PySem.Str), 2), (("Moving.adjust" : PySem.Str), 2), (("is_young" : PySem.Str), 1), (("placed" : PySem.Str), 2), (("_law_draw" : PySem.Str), 1), (("_law_take" : PySem.Str), 2), (("_law_object" : PySem.Str), 2), (("_law_reached" : PySem.Str), 2), (("_law_move" : PySem.Str), 3), (("_law_adjust" : PySem.Str), 3), (("_law_minor" : PySem.Str), 2), (("_law_placed" : PySem.Str), 2), (("_law_major" : PySem.Str), 2), (("_law_store" : PySem.Str), 3), (("_law_some" : PySem.Str), 2), (("_law_made" : PySem.Str), 2), (("_law_deed" : PySem.Str), 5), (("law" : PySem.Str), 1)], gcs := [], xcs := [], file := PySem.Challenge.pw_guanaco_k56_heap_by_a_model.main.file, ocs := [⟨"Heap", ["room", "young", "old", "remembered"]⟩, ⟨"Moving", ["heap", "places"]⟩], mts := [(0, "Heap", "__init__"), (1, "Heap", "is_full"), (2, "Heap", "make"), (3, "Heap", "look"), (4, "Heap", "store"), (5, "Heap", "counts"), (6, "Heap", "minor"), (7, "Heap", "reached"), (8, "Heap", "major"), (9, "Moving", "__init__"), (10, "Moving", "value"), (11, "Moving", "adjust")] }
def e_Heap___init__ : Ent G :=
  { x := "Heap.__init__", at_ := ("Heap", some "__init__"), nm := "__init__", qn := "Heap.__init__", a := defArgs (metS 1 0), body := defBody (metS 1 0), sc := defScope (metS 1 0), N := ["self", "young"], ps := ["self", "young"], F := ⟨2, 2, b_Heap___init__⟩
    scp := ⟨rfl, rfl, rfl, by decide +kernel, rfl, by decide +kernel, by decide +kernel⟩, np := rfl, nn := rfl, chk := by decide +kernel
    bind := fun _ _ _ _ _ _ us hl => match us, hl with | [_, _], _ => rfl }
def e_Heap_is_full : Ent G :=
  { x := "Heap.is_full", at_ := ("Heap", some "is_full"), nm := "is_full", qn := "Heap.is_full", a := defArgs (metS 1 1), body := defBody (metS 1 1), sc := defScope (metS 1 1), N := ["self"], ps := ["self"], F := ⟨1, 1, b_Heap_is_full⟩
    scp := ⟨rfl, rfl, rfl, by decide +kernel, rfl, by decide +kernel, by decide +kernel⟩, np := rfl, nn := rfl, chk := by decide +kernel
    bind := fun _ _ _ _ _ _ us hl => match us, hl with | [_], _ => rfl }
def e_Heap_make : Ent G :=
  { x := "Heap.make", at_ := ("Heap", some "make"), nm := "make", qn := "Heap.make", a := defArgs (metS 1 2), body := defBody (metS 1 2), sc := defScope (metS 1 2), N := ["self", "kind", "word", "fields"], ps := ["self", "kind", "word", "fields"], F := ⟨4, 4, b_Heap_make⟩
    scp := ⟨rfl, rfl, rfl, by decide +kernel, rfl, by decide +kernel, by decide +kernel⟩, np := rfl, nn := rfl, chk := by decide +kernel
    bind := fun _ _ _ _ _ _ us hl => match us, hl with | [_, _, _, _], _ => rfl }
def e_Heap_look : Ent G :=
  { x := "Heap.look", at_ := ("Heap", some "look"), nm := "look", qn := "Heap.look", a := defArgs (metS 1 3), body := defBody (metS 1 3), sc := defScope (metS 1 3), N := ["self", "value", "address"], ps := ["self", "value"], F := ⟨2, 3, b_Heap_look⟩
    scp := ⟨rfl, rfl, rfl, by decide +kernel, rfl, by decide +kernel, by decide +kernel⟩, np := rfl, nn := rfl, chk := by decide +kernel
    bind := fun _ _ _ _ _ _ us hl => match us, hl with | [_, _], _ => rfl }
def e_Heap_store : Ent G :=
  { x := "Heap.store", at_ := ("Heap", some "store"), nm := "store", qn := "Heap.store", a := defArgs (metS 1 4), body := defBody (metS 1 4), sc := defScope (metS 1 4), N := ["self", "value", "content", "address", "kind", "word", "_"], ps := ["self", "value", "content"], F := ⟨3, 7, b_Heap_store⟩
    scp := ⟨rfl, rfl, rfl, by decide +kernel, rfl, by decide +kernel, by decide +kernel⟩, np := rfl, nn := rfl, chk := by decide +kernel
    bind := fun _ _ _ _ _ _ us hl => match us, hl with | [_, _, _], _ => rfl }
def e_Heap_counts : Ent G :=
  { x := "Heap.counts", at_ := ("Heap", some "counts"), nm := "counts", qn := "Heap.counts", a := defArgs (metS 1 5), body := defBody (metS 1 5), sc := defScope (metS 1 5), N := ["self"], ps := ["self"], F := ⟨1, 1, b_Heap_counts⟩
    scp := ⟨rfl, rfl, rfl, by decide +kernel, rfl, by decide +kernel, by decide +kernel⟩, np := rfl, nn := rfl, chk := by decide +kernel
    bind := fun _ _ _ _ _ _ us hl => match us, hl with | [_], _ => rfl }
def e_Heap_minor : Ent G :=
  { x := "Heap.minor", at_ := ("Heap", some "minor"), nm := "minor", qn := "Heap.minor", a := defArgs (metS 1 6), body := defBody (metS 1 6), sc := defScope (metS 1 6), N := ["self", "roots", "moving", "scan", "adjusted", "root", "address"], ps := ["self", "roots"], F := ⟨2, 7, b_Heap_minor⟩
    scp := ⟨rfl, rfl, rfl, by decide +kernel, rfl, by decide +kernel, by decide +kernel⟩, np := rfl, nn := rfl, chk := by decide +kernel
    bind := fun _ _ _ _ _ _ us hl => match us, hl with | [_, _], _ => rfl }
def e_Heap_reached : Ent G :=
  { x := "Heap.reached", at_ := ("Heap", some "reached"), nm := "reached", qn := "Heap.reached", a := defArgs (metS 1 7), body := defBody (metS 1 7), sc := defScope (metS 1 7), N := ["self", "roots", "found", "left", "value"], ps := ["self", "roots"], F := ⟨2, 5, b_Heap_reached⟩
    scp := ⟨rfl, rfl, rfl, by decide +kernel, rfl, by decide +kernel, by decide +kernel⟩, np := rfl, nn := rfl, chk := by decide +kernel
    bind := fun _ _ _ _ _ _ us hl => match us, hl with | [_, _], _ => rfl }
def e_Heap_major : Ent G :=
  { x := "Heap.major", at_ := ("Heap", some "major"), nm := "major", qn := "Heap.major", a := defArgs (metS 1 8), body := defBody (metS 1 8), sc := defScope (metS 1 8), N := ["self", "roots", "kept", "places", "place", "address", "objects", "kind", "word", "fields", "field", "root"], ps := ["self", "roots"], F := ⟨2, 12, b_Heap_major⟩
    scp := ⟨rfl, rfl, rfl, by decide +kernel, rfl, by decide +kernel, by decide +kernel⟩, np := rfl, nn := rfl, chk := by decide +kernel
    bind := fun _ _ _ _ _ _ us hl => match us, hl with | [_, _], _ => rfl }
def e_Moving___init__ : Ent G :=
  { x := "Moving.__init__", at_ := ("Moving", some "__init__"), nm := "__init__", qn := "Moving.__init__", a := defArgs (metS 2 0), body := defBody (metS 2 0), sc := defScope (metS 2 0), N := ["self", "heap"], ps := ["self", "heap"], F := ⟨2, 2, b_Moving___init__⟩
    scp := ⟨rfl, rfl, rfl, by decide +kernel, rfl, by decide +kernel, by decide +kernel⟩, np := rfl, nn := rfl, chk := by decide +kernel
    bind := fun _ _ _ _ _ _ us hl => match us, hl with | [_, _], _ => rfl }
def e_Moving_value : Ent G :=
  { x := "Moving.value", at_ := ("Moving", some "value"), nm := "value", qn := "Moving.value", a := defArgs (metS 2 1), body := defBody (metS 2 1), sc := defScope (metS 2 1), N := ["self", "value"], ps := ["self", "value"], F := ⟨2, 2, b_Moving_value⟩
    scp := ⟨rfl, rfl, rfl, by decide +kernel, rfl, by decide +kernel, by decide +kernel⟩, np := rfl, nn := rfl, chk := by decide +kernel
    bind := fun _ _ _ _ _ _ us hl => match us, hl with | [_, _], _ => rfl }
def e_Moving_adjust : Ent G :=
  { x := "Moving.adjust", at_ := ("Moving", some "adjust"), nm := "adjust", qn := "Moving.adjust", a := defArgs (metS 2 2), body := defBody (metS 2 2), sc := defScope (metS 2 2), N := ["self", "address", "kind", "word", "fields", "field"], ps := ["self", "address"], F := ⟨2, 6, b_Moving_adjust⟩
    scp := ⟨rfl, rfl, rfl, by decide +kernel, rfl, by decide +kernel, by decide +kernel⟩, np := rfl, nn := rfl, chk := by decide +kernel
    bind := fun _ _ _ _ _ _ us hl => match us, hl with | [_, _], _ => rfl }
def e_is_young : Ent G :=
  { x := "is_young", a := defArgs (topS 3), body := defBody (topS 3), sc := defScope (topS 3), N := ["value"], ps := ["value"], F := ⟨1, 1, b_is_young⟩
    scp := ⟨rfl, rfl, rfl, by decide +kernel, rfl, by decide +kernel, by decide +kernel⟩, np := rfl, nn := rfl, chk := by decide +kernel
    bind := fun _ _ _ _ _ _ us hl => match us, hl with | [_], _ => rfl }
def e_placed : Ent G :=
  { x := "placed", a := defArgs (topS 4), body := defBody (topS 4), sc := defScope (topS 4), N := ["value", "places"], ps := ["value", "places"], F := ⟨2, 2, b_placed⟩
    scp := ⟨rfl, rfl, rfl, by decide +kernel, rfl, by decide +kernel, by decide +kernel⟩, np := rfl, nn := rfl, chk := by decide +kernel
    bind := fun _ _ _ _ _ _ us hl => match us, hl with | [_, _], _ => rfl }
def e__law_draw : Ent G :=
  { x := "_law_draw", a := defArgs (topS 6), body := defBody (topS 6), sc := defScope (topS 6), N := ["script", "seed", "cell", "first"], ps := ["script"], F := ⟨1, 4, b__law_draw⟩
    scp := ⟨rfl, rfl, rfl, by decide +kernel, rfl, by decide +kernel, by decide +kernel⟩, np := rfl, nn := rfl, chk := by decide +kernel
    bind := fun _ _ _ _ _ _ us hl => match us, hl with | [_], _ => rfl }
def e__law_take : Ent G :=
  { x := "_law_take", a := defArgs (topS 7), body := defBody (topS 7), sc := defScope (topS 7), N := ["draw", "many", "digit"], ps := ["draw", "many"], F := ⟨2, 3, b__law_take⟩
    scp := ⟨rfl, rfl, rfl, by decide +kernel, rfl, by decide +kernel, by decide +kernel⟩, np := rfl, nn := rfl, chk := by decide +kernel
    bind := fun _ _ _ _ _ _ us hl => match us, hl with | [_, _], _ => rfl }
def e__law_object : Ent G :=
  { x := "_law_object", a := defArgs (topS 8), body := defBody (topS 8), sc := defScope (topS 8), N := ["value", "model"], ps := ["value", "model"], F := ⟨2, 2, b__law_object⟩
    scp := ⟨rfl, rfl, rfl, by decide +kernel, rfl, by decide +kernel, by decide +kernel⟩, np := rfl, nn := rfl, chk := by decide +kernel
    bind := fun _ _ _ _ _ _ us hl => match us, hl with | [_, _], _ => rfl }
def e__law_reached : Ent G :=
  { x := "_law_reached", a := defArgs (topS 9), body := defBody (topS 9), sc := defScope (topS 9), N := ["roots", "model", "found", "left", "root", "k", "value", "field"], ps := ["roots", "model"], F := ⟨2, 8, b__law_reached⟩
    scp := ⟨rfl, rfl, rfl, by decide +kernel, rfl, by decide +kernel, by decide +kernel⟩, np := rfl, nn := rfl, chk := by decide +kernel
    bind := fun _ _ _ _ _ _ us hl => match us, hl with | [_, _], _ => rfl }
def e__law_move : Ent G :=
  { x := "_law_move", a := defArgs (topS 10), body := defBody (topS 10), sc := defScope (topS 10), N := ["value", "model", "places"], ps := ["value", "model", "places"], F := ⟨3, 3, b__law_move⟩
    scp := ⟨rfl, rfl, rfl, by decide +kernel, rfl, by decide +kernel, by decide +kernel⟩, np := rfl, nn := rfl, chk := by decide +kernel
    bind := fun _ _ _ _ _ _ us hl => match us, hl with | [_, _, _], _ => rfl }
def e__law_adjust : Ent G :=
  { x := "_law_adjust", a := defArgs (topS 11), body := defBody (topS 11), sc := defScope (topS 11), N := ["at", "model", "places", "one", "field"], ps := ["at", "model", "places"], F := ⟨3, 5, b__law_adjust⟩
    scp := ⟨rfl, rfl, rfl, by decide +kernel, rfl, by decide +kernel, by decide +kernel⟩, np := rfl, nn := rfl, chk := by decide +kernel
    bind := fun _ _ _ _ _ _ us hl => match us, hl with | [_, _, _], _ => rfl }
def e__law_minor : Ent G :=
  { x := "_law_minor", a := defArgs (topS 12), body := defBody (topS 12), sc := defScope (topS 12), N := ["roots", "model", "places", "at", "root", "address", "k"], ps := ["roots", "model"], F := ⟨2, 7, b__law_minor⟩
    scp := ⟨rfl, rfl, rfl, by decide +kernel, rfl, by decide +kernel, by decide +kernel⟩, np := rfl, nn := rfl, chk := by decide +kernel
    bind := fun _ _ _ _ _ _ us hl => match us, hl with | [_, _], _ => rfl }
def e__law_placed : Ent G :=
  { x := "_law_placed", a := defArgs (topS 13), body := defBody (topS 13), sc := defScope (topS 13), N := ["value", "kept"], ps := ["value", "kept"], F := ⟨2, 2, b__law_placed⟩
    scp := ⟨rfl, rfl, rfl, by decide +kernel, rfl, by decide +kernel, by decide +kernel⟩, np := rfl, nn := rfl, chk := by decide +kernel
    bind := fun _ _ _ _ _ _ us hl => match us, hl with | [_, _], _ => rfl }
def e__law_major : Ent G :=
  { x := "_law_major", a := defArgs (topS 14), body := defBody (topS 14), sc := defScope (topS 14), N := ["roots", "model", "kept", "value", "objects", "address", "one", "field", "root"], ps := ["roots", "model"], F := ⟨2, 9, b__law_major⟩
    scp := ⟨rfl, rfl, rfl, by decide +kernel, rfl, by decide +kernel, by decide +kernel⟩, np := rfl, nn := rfl, chk := by decide +kernel
    bind := fun _ _ _ _ _ _ us hl => match us, hl with | [_, _], _ => rfl }
def e__law_store : Ent G :=
  { x := "_law_store", a := defArgs (topS 15), body := defBody (topS 15), sc := defScope (topS 15), N := ["value", "content", "model", "one"], ps := ["value", "content", "model"], F := ⟨3, 4, b__law_store⟩
    scp := ⟨rfl, rfl, rfl, by decide +kernel, rfl, by decide +kernel, by decide +kernel⟩, np := rfl, nn := rfl, chk := by decide +kernel
    bind := fun _ _ _ _ _ _ us hl => match us, hl with | [_, _, _], _ => rfl }
def e__law_some : Ent G :=
  { x := "_law_some", a := defArgs (topS 16), body := defBody (topS 16), sc := defScope (topS 16), N := ["draw", "roots"], ps := ["draw", "roots"], F := ⟨2, 2, b__law_some⟩
    scp := ⟨rfl, rfl, rfl, by decide +kernel, rfl, by decide +kernel, by decide +kernel⟩, np := rfl, nn := rfl, chk := by decide +kernel
    bind := fun _ _ _ _ _ _ us hl => match us, hl with | [_, _], _ => rfl }
def e__law_made : Ent G :=
  { x := "_law_made", a := defArgs (topS 17), body := defBody (topS 17), sc := defScope (topS 17), N := ["draw", "roots", "which", "a", "k"], ps := ["draw", "roots"], F := ⟨2, 5, b__law_made⟩
    scp := ⟨rfl, rfl, rfl, by decide +kernel, rfl, by decide +kernel, by decide +kernel⟩, np := rfl, nn := rfl, chk := by decide +kernel
    bind := fun _ _ _ _ _ _ us hl => match us, hl with | [_, _], _ => rfl }
def e__law_deed : Ent G :=
  { x := "_law_deed", a := defArgs (topS 18), body := defBody (topS 18), sc := defScope (topS 18), N := ["draw", "heap", "model", "roots", "young", "which", "refs", "root", "gone", "value", "content", "handed", "told", "due", "one"], ps := ["draw", "heap", "model", "roots", "young"], F := ⟨5, 15, b__law_deed⟩
    scp := ⟨rfl, rfl, rfl, by decide +kernel, rfl, by decide +kernel, by decide +kernel⟩, np := rfl, nn := rfl, chk := by decide +kernel
    bind := fun _ _ _ _ _ _ us hl => match us, hl with | [_, _, _, _, _], _ => rfl }
def e_law : Ent G :=
  { x := "law", a := defArgs (topS 19), body := defBody (topS 19), sc := defScope (topS 19), N := ["script", "draw", "sides", "k", "young", "side", "good", "heap", "model", "roots", "full", "value"], ps := ["script"], F := ⟨1, 12, b_law⟩
    scp := ⟨rfl, rfl, rfl, by decide +kernel, rfl, by decide +kernel, by decide +kernel⟩, np := rfl, nn := rfl, chk := by decide +kernel
    bind := fun _ _ _ _ _ _ us hl => match us, hl with | [_], _ => rfl }
def ents : List (Ent G) := [e_Heap___init__, e_Heap_is_full, e_Heap_make, e_Heap_look, e_Heap_store, e_Heap_counts, e_Heap_minor, e_Heap_reached, e_Heap_major, e_Moving___init__, e_Moving_value, e_Moving_adjust, e_is_young, e_placed, e__law_draw, e__law_take, e__law_object, e__law_reached, e__law_move, e__law_adjust, e__law_minor, e__law_placed, e__law_major, e__law_store, e__law_some, e__law_made, e__law_deed, e_law]
end Gu
end

section
set_option linter.all false
set_option Elab.async false
/-! Gs: how the small language computes, as rules for simp. -/
namespace Gu
open PySem L2
section
variable {call : CallT} {ρ : Rho} {h : MH} {a b c e es lo hi o it cond elt : E} {x y : Val}
def truR (x : Val) (h : MH) : R Bool := R.ofO (truV h x) h
def itR (x : Val) (h : MH) : R Items := R.ofO (itemsV h x) h
def intO (x : Val) (h : MH) : R (Option Int) := match x with | .int k => .ok (some k) h | _ => .no
def blR (x : Val) (h : MH) : R Bool := match x with | .bl k => .ok k h | _ => .no
@[simp] theorem truR_bl {b : Bool} : truR (.bl b) h = .ok b h := rfl
@[simp] theorem truR_int {i : Int} : truR (.int i) h = .ok (i != 0) h := rfl
@[simp] theorem truR_str {s : List Nat} : truR (.str s) h = .ok (!s.isEmpty) h := rfl
@[simp] theorem truR_tup {s : List Val} : truR (.tup s) h = .ok (!s.isEmpty) h := rfl
@[simp] theorem truR_non : truR .non h = .ok false h := rfl
theorem truR_loc {n : Nat} {vs : List Val} (hn : h[n]? = some (.lst vs)) : truR (.loc n) h = .ok (!vs.isEmpty) h := by
  simp [truR, truV, seqL, hn]
@[simp] theorem intO_int {i : Int} : intO (.int i) h = .ok (some i) h := rfl
@[simp] theorem blR_bl {b : Bool} : blR (.bl b) h = .ok b h := rfl
@[simp] theorem itR_tup {s : List Val} : itR (.tup s) h = .ok (.vals s) h := rfl
@[simp] theorem itR_fro {s : List Val} : itR (.fro s) h = .ok (.vals s) h := rfl
@[simp] theorem itR_str {s : List Nat} : itR (.str s) h = .ok (.vals (s.map fun c => .str [c])) h := rfl
theorem itR_loc {n : Nat} {vs : List Val} (hn : h[n]? = some (.lst vs)) : itR (.loc n) h = .ok (.live n vs.length) h := by
  simp [itR, itemsV, seqL, hn]
/-! expressions -/
@[simp] theorem v_var {i : Nat} : (ev call (.var i)).v ρ h = R.ofO (ρ[i]?).join h := rfl
@[simp] theorem v_cst {v : Val} : (ev call (.cst v)).v ρ h = .ok v h := rfl
@[simp] theorem v_glb {n : Str} {v : Val} : (ev call (.glb n v)).v ρ h = .ok v h := rfl
@[simp] theorem v_bin {op : Operator} : (ev call (.bin op a b)).v ρ h = ((ev call a).v ρ h).bind fun x h1 => ((ev call b).v ρ h1).bind fun y h2 => binV op x y h2 := rfl
def negR (x : Val) (h : MH) : R Val := match x with | .int i => .ok (.int (-i)) h | _ => .no
@[simp] theorem negR_int {i : Int} : negR (.int i) h = .ok (.int (-i)) h := rfl
@[simp] theorem v_neg : (ev call (.neg a)).v ρ h = ((ev call a).v ρ h).bind negR := rfl
def cmpR (op : CmpOp) (x y : Val) (h : MH) : R Val := R.ofO (cmpV op h x y) h
@[simp] theorem v_cmp {op : CmpOp} : (ev call (.cmp op a b)).v ρ h = ((ev call a).v ρ h).bind fun x h1 => ((ev call b).v ρ h1).bind fun y h2 => cmpR op x y h2 := rfl
@[simp] theorem t_cmp {op : CmpOp} : (ev call (.cmp op a b)).t ρ h = (((ev call a).v ρ h).bind fun x h1 => ((ev call b).v ρ h1).bind fun y h2 => cmpR op x y h2).bind blR := rfl
@[simp] theorem v_and : (ev call (.and_ a b)).v ρ h = ((ev call a).v ρ h).bind fun x h1 => (truR x h1).bind fun k h2 => if k then (ev call b).v ρ h2 else .ok x h2 := rfl
@[simp] theorem t_and : (ev call (.and_ a b)).t ρ h = ((ev call a).t ρ h).bind fun x h1 => if x then (ev call b).t ρ h1 else .ok false h1 := rfl
@[simp] theorem v_or : (ev call (.or_ a b)).v ρ h = ((ev call a).v ρ h).bind fun x h1 => (truR x h1).bind fun k h2 => if k then .ok x h2 else (ev call b).v ρ h2 := rfl
@[simp] theorem t_or : (ev call (.or_ a b)).t ρ h = ((ev call a).t ρ h).bind fun x h1 => if x then .ok true h1 else (ev call b).t ρ h1 := rfl
@[simp] theorem v_not : (ev call (.not_ a)).v ρ h = ((ev call a).v ρ h).bind fun x h1 => (truR x h1).bind fun k h2 => .ok (.bl (!k)) h2 := rfl
@[simp] theorem t_not : (ev call (.not_ a)).t ρ h = ((ev call a).t ρ h).bind fun x h1 => .ok (!x) h1 := rfl
@[simp] theorem v_ite : (ev call (.ite c a b)).v ρ h = ((ev call c).t ρ h).bind fun x h1 => if x then (ev call a).v ρ h1 else (ev call b).v ρ h1 := rfl
@[simp] theorem t_ite : (ev call (.ite c a b)).t ρ h = ((ev call c).t ρ h).bind fun x h1 => if x then (ev call a).t ρ h1 else (ev call b).t ρ h1 := rfl
def tupR (xs : List Val) (h : MH) : R Val := if xs.length ≤ sizeLine then .ok (.tup xs) h else .no
def lstR (xs : List Val) (h : MH) : R Val := if xs.length ≤ sizeLine then .ok (.loc h.length) (h ++ [.lst xs]) else .no
@[simp] theorem v_tup : (ev call (.tup es)).v ρ h = ((ev call es).a ρ h).bind tupR := rfl
@[simp] theorem v_lst : (ev call (.lst es)).v ρ h = ((ev call es).a ρ h).bind lstR := rfl
def idxR (x y : Val) (h : MH) : R Val := R.ofO (idxV h x y) h
@[simp] theorem v_idx : (ev call (.idx a b)).v ρ h = ((ev call a).v ρ h).bind fun x h1 => ((ev call b).v ρ h1).bind fun y h2 => idxR x y h2 := rfl
@[simp] theorem v_slc : (ev call (.slc a lo hi)).v ρ h = ((ev call a).v ρ h).bind fun x h1 => ((ev call lo).o ρ h1).bind fun l h2 => ((ev call hi).o ρ h2).bind fun u h3 => slcV h3 x l u := rfl
@[simp] theorem v_call {f : Nat} : (ev call (.call f es)).v ρ h = ((ev call es).a ρ h).bind fun xs h1 => call f xs h1 := rfl
@[simp] theorem v_blt {b : BI} : (ev call (.blt b es)).v ρ h = ((ev call es).a ρ h).bind fun xs h1 => biV b xs h1 := rfl
def isiR (t : TK) (x : Val) (h : MH) : R Val := R.ofO ((isiV t h x).map .bl) h
@[simp] theorem v_isi {t : TK} : (ev call (.isi t a)).v ρ h = ((ev call a).v ρ h).bind fun x h1 => isiR t x h1 := rfl
@[simp] theorem v_mth {m : MI} : (ev call (.mth m o es)).v ρ h = ((ev call o).v ρ h).bind fun x h1 => if mtT m h1 x then ((ev call es).a ρ h1).bind fun xs h2 => mtV m x xs h2 else .no := rfl
@[simp] theorem v_lc {own : List Nat} {t : NT} : (ev call (.lc own t it cond elt)).v ρ h = ((ev call it).i ρ h).bind fun its h1 => lcLoop h1.length t (wipeR ρ own) (ev call cond).t (ev call elt).v its its.len 0 (h1 ++ [.lst []]) := rfl
@[simp] theorem v_lcn {own : List Nat} {t : NT} {rest : E} : (ev call (.lcn own t it cond rest)).v ρ h = ((ev call it).i ρ h).bind fun its h1 => (clLoop t (wipeR ρ own) (ev call cond).t ((ev call rest).c h1.length) its its.len 0 (h1 ++ [.lst []])).bind fun _ h2 => .ok (.loc h1.length) h2 := rfl
@[simp] theorem c_cl {own : List Nat} {t : NT} {rest : E} {n : Nat} : (ev call (.cl own t it cond rest)).c n ρ h = ((ev call it).i ρ h).bind fun its h1 => clLoop t (wipeR ρ own) (ev call cond).t ((ev call rest).c n) its its.len 0 h1 := rfl
@[simp] theorem c_el {n : Nat} : (ev call (.el e)).c n ρ h = ((ev call e).v ρ h).bind fun y h1 => addL n y h1 := rfl
@[simp] theorem v_rev : (ev call (.rev a)).v ρ h = ((ev call a).v ρ h).bind revV := rfl
@[simp] theorem revV_tup {xs : List Val} : revV (.tup xs) h = .ok (.tup xs.reverse) h := rfl
theorem revV_loc {n : Nat} {xs : List Val} (hn : h[n]? = some (.lst xs)) : revV (.loc n) h = .ok (.loc h.length) (h ++ [.lst xs.reverse]) := by simp [revV, seqL, hn]
@[simp] theorem v_mxd {d : E} : (ev call (.mxd a d)).v ρ h = ((ev call a).v ρ h).bind fun x h1 => ((ev call d).v ρ h1).bind fun y h2 => mxdV x y h2 := rfl
@[simp] theorem i_rev : (ev call (.rev a)).i ρ h = ((ev call (.rev a)).v ρ h).bind itR := rfl
@[simp] theorem i_lc {own : List Nat} {t : NT} : (ev call (.lc own t it cond elt)).i ρ h = ((ev call (.lc own t it cond elt)).v ρ h).bind itR := rfl
@[simp] theorem i_blt {b : BI} : (ev call (.blt b es)).i ρ h = ((ev call (.blt b es)).v ρ h).bind itR := rfl
@[simp] theorem i_glb {n : Str} {v : Val} : (ev call (.glb n v)).i ρ h = ((ev call (.glb n v)).v ρ h).bind itR := rfl
@[simp] theorem a_nil : (ev call .nil).a ρ h = .ok [] h := rfl
@[simp] theorem t_nil : (ev call .nil).t ρ h = .ok true h := rfl
@[simp] theorem o_nil : (ev call .nil).o ρ h = .ok none h := rfl
@[simp] theorem a_cons : (ev call (.cons e es)).a ρ h = ((ev call e).v ρ h).bind fun x h1 => ((ev call es).a ρ h1).bind fun xs h2 => .ok (x :: xs) h2 := rfl
@[simp] theorem t_cons : (ev call (.cons e es)).t ρ h = (ev call e).t ρ h := rfl
/-! tests, parts, things walked -/
@[simp] theorem t_var {i : Nat} : (ev call (.var i)).t ρ h = ((ev call (.var i)).v ρ h).bind truR := rfl
@[simp] theorem t_idx : (ev call (.idx a b)).t ρ h = ((ev call (.idx a b)).v ρ h).bind truR := rfl
@[simp] theorem t_call {f : Nat} : (ev call (.call f es)).t ρ h = ((ev call (.call f es)).v ρ h).bind truR := rfl
@[simp] theorem t_isi {t : TK} : (ev call (.isi t a)).t ρ h = ((ev call (.isi t a)).v ρ h).bind truR := rfl
@[simp] theorem t_blt {b : BI} : (ev call (.blt b es)).t ρ h = ((ev call (.blt b es)).v ρ h).bind truR := rfl
@[simp] theorem o_var {i : Nat} : (ev call (.var i)).o ρ h = ((ev call (.var i)).v ρ h).bind intO := rfl
@[simp] theorem o_cst {v : Val} : (ev call (.cst v)).o ρ h = ((ev call (.cst v)).v ρ h).bind intO := rfl
@[simp] theorem o_bin {op : Operator} : (ev call (.bin op a b)).o ρ h = ((ev call (.bin op a b)).v ρ h).bind intO := rfl
@[simp] theorem o_neg : (ev call (.neg a)).o ρ h = ((ev call (.neg a)).v ρ h).bind intO := rfl
@[simp] theorem o_blt {b : BI} : (ev call (.blt b es)).o ρ h = ((ev call (.blt b es)).v ρ h).bind intO := rfl
@[simp] theorem i_var {i : Nat} : (ev call (.var i)).i ρ h = ((ev call (.var i)).v ρ h).bind itR := rfl
@[simp] theorem i_idx : (ev call (.idx a b)).i ρ h = ((ev call (.idx a b)).v ρ h).bind itR := rfl
@[simp] theorem i_slc : (ev call (.slc a lo hi)).i ρ h = ((ev call (.slc a lo hi)).v ρ h).bind itR := rfl
@[simp] theorem i_call {f : Nat} : (ev call (.call f es)).i ρ h = ((ev call (.call f es)).v ρ h).bind itR := rfl
@[simp] theorem i_cst {v : Val} : (ev call (.cst v)).i ρ h = ((ev call (.cst v)).v ρ h).bind itR := rfl
@[simp] theorem i_tup : (ev call (.tup es)).i ρ h = ((ev call (.tup es)).v ρ h).bind itR := rfl
@[simp] theorem i_lst : (ev call (.lst es)).i ρ h = ((ev call (.lst es)).v ρ h).bind itR := rfl
@[simp] theorem i_bin {op : Operator} : (ev call (.bin op a b)).i ρ h = ((ev call (.bin op a b)).v ρ h).bind itR := rfl
def rng1R (x : Val) (h : MH) : R Items := match x with | .int k => if k.natAbs < 4611686018427387904 then .ok (.rng 0 k.toNat) h else .no | _ => .no
@[simp] theorem i_rng1 : (ev call (.rng1 a)).i ρ h = ((ev call a).v ρ h).bind rng1R := rfl
theorem rng1R_ok {k : Int} (h1 : k.natAbs < 4611686018427387904) : rng1R (.int k) h = .ok (.rng 0 k.toNat) h := if_pos h1
/-! operations -/
@[simp] theorem bin_add {i j : Int} : binV .Add (.int i) (.int j) h = .ok (.int (i + j)) h := rfl
@[simp] theorem bin_sub {i j : Int} : binV .Sub (.int i) (.int j) h = .ok (.int (i - j)) h := rfl
theorem bin_mul {i j : Int} (c : i.natAbs.log2 + j.natAbs.log2 < 1000000) : binV .Mult (.int i) (.int j) h = .ok (.int (i * j)) h := if_pos c
theorem bin_fdiv {i j : Int} (c : 0 < j ∧ j.natAbs.log2 < 9000) : binV .FloorDiv (.int i) (.int j) h = .ok (.int (i / j)) h := if_pos c
theorem bin_mod {i j : Int} (c : 0 < j) : binV .Mod (.int i) (.int j) h = .ok (.int (i % j)) h := if_pos c
theorem bin_str {s t : List Nat} (c : s.length + t.length ≤ sizeLine) : binV .Add (.str s) (.str t) h = .ok (.str (s ++ t)) h := if_pos c
@[simp] theorem cmp_lt {i j : Int} : cmpR .Lt (.int i) (.int j) h = .ok (.bl (decide (i < j))) h := rfl
@[simp] theorem cmp_le {i j : Int} : cmpR .LtE (.int i) (.int j) h = .ok (.bl (decide (i ≤ j))) h := rfl
@[simp] theorem cmp_gt {i j : Int} : cmpR .Gt (.int i) (.int j) h = .ok (.bl (decide (j < i))) h := rfl
@[simp] theorem cmp_ge {i j : Int} : cmpR .GtE (.int i) (.int j) h = .ok (.bl (decide (j ≤ i))) h := rfl
@[simp] theorem cmp_eqI {i j : Int} : cmpR .Eq (.int i) (.int j) h = .ok (.bl (i == j)) h := rfl
@[simp] theorem cmp_neI {i j : Int} : cmpR .NotEq (.int i) (.int j) h = .ok (.bl (!(i == j))) h := rfl
@[simp] theorem cmp_eqS {s t : List Nat} : cmpR .Eq (.str s) (.str t) h = .ok (.bl (s == t)) h := rfl
@[simp] theorem cmp_neS {s t : List Nat} : cmpR .NotEq (.str s) (.str t) h = .ok (.bl (!(s == t))) h := rfl
@[simp] theorem cmp_isN : cmpR .Is x .non h = .ok (.bl x.isNon) h := rfl
@[simp] theorem cmp_isntN : cmpR .IsNot x .non h = .ok (.bl (!x.isNon)) h := rfl
@[simp] theorem cmp_inS {c : Nat} {s : List Nat} : cmpR .In (.str [c]) (.str s) h = .ok (.bl (s.contains c)) h := rfl
@[simp] theorem cmp_ninS {c : Nat} {s : List Nat} : cmpR .NotIn (.str [c]) (.str s) h = .ok (.bl (!s.contains c)) h := rfl
@[simp] theorem idx_tup {xs : List Val} {i : Int} : idxR (.tup xs) (.int i) h = R.ofO (atI xs i) h := rfl
@[simp] theorem idx_fro {xs : List Val} {i : Int} : idxR (.fro xs) (.int i) h = R.ofO (atI xs i) h := rfl
@[simp] theorem idx_str {s : List Nat} {i : Int} : idxR (.str s) (.int i) h = R.ofO ((atI s i).map fun c => Val.str [c]) h := rfl
theorem idx_loc {n : Nat} {i : Int} {vs : List Val} (hn : h[n]? = some (.lst vs)) : idxR (.loc n) (.int i) h = R.ofO (atI vs i) h := by
  simp [idxR, idxV, seqL, hn]
@[simp] theorem bi_lenS {s : List Nat} : biV .len [.str s] h = .ok (.int s.length) h := rfl
@[simp] theorem bi_lenT {s : List Val} : biV .len [.tup s] h = .ok (.int s.length) h := rfl
@[simp] theorem bi_lenF {s : List Val} : biV .len [.fro s] h = .ok (.int s.length) h := rfl
theorem bi_lenL {n : Nat} {vs : List Val} (hn : h[n]? = some (.lst vs)) : biV .len [.loc n] h = .ok (.int vs.length) h := by
  simp [biV, seqL, hn]
@[simp] theorem bi_int {i : Int} : biV .int [.int i] h = .ok (.int i) h := rfl
theorem bi_str {i : Int} (c : i.natAbs.log2 < 1920 ∧ (strInt i).length ≤ sizeLine) : biV .str [.int i] h = .ok (.str (strInt i)) h := if_pos c
@[simp] theorem bi_tupT {xs : List Val} : biV .tuple [.tup xs] h = .ok (.tup xs) h := rfl
theorem bi_tupL {n : Nat} {vs : List Val} (hn : h[n]? = some (.lst vs)) : biV .tuple [.loc n] h = .ok (.tup vs) h := by
  simp [biV, seqL, hn]
@[simp] theorem bi_listT {xs : List Val} : biV .list [.tup xs] h = .ok (.loc h.length) (h ++ [.lst xs]) := rfl
theorem bi_listL {n : Nat} {vs : List Val} (hn : h[n]? = some (.lst vs)) : biV .list [.loc n] h = .ok (.loc h.length) (h ++ [.lst vs]) := by
  simp [biV, seqL, hn]
theorem ints_map (ns : List Int) : ints? (ns.map Val.int) = some ns := by
  induction ns with
  | nil => rfl
  | cons n ns ih => simp [ints?, ih]
theorem bi_sum {n : Nat} {ns : List Int} (hn : h[n]? = some (.lst (ns.map .int))) : biV .sum [.loc n] h = .ok (.int ns.sum) h := by
  simp [biV, seqL, hn, ints_map]
theorem bi_maxL {n : Nat} {i : Int} {ns : List Int} (hn : h[n]? = some (.lst ((i :: ns).map .int))) : biV .max [.loc n] h = .ok (.int (maxL i ns)) h := by
  have := ints_map (i :: ns)
  simp only [biV, seqL, hn, Option.bind_some, this]
theorem mxd_ok {n : Nat} {ns : List Int} {d : Int} (hn : h[n]? = some (.lst (ns.map .int))) : mxdV (.loc n) (.int d) h = .ok (.int (topL d ns)) h := by
  simp [mxdV, seqL, hn, ints_map]
@[simp] theorem bi_max2 {i j : Int} : biV .max [.int i, .int j] h = .ok (.int (max2 i j)) h := rfl
@[simp] theorem bi_max3 {i j k : Int} : biV .max [.int i, .int j, .int k] h = .ok (.int (max2 (max2 i j) k)) h := rfl
@[simp] theorem bi_min2 {i j : Int} : biV .min [.int i, .int j] h = .ok (.int (min2 i j)) h := rfl
@[simp] theorem bi_abs {i : Int} : biV .abs [.int i] h = .ok (.int (if i < 0 then -i else i)) h := rfl
theorem cmp_inT {u : List Nat} {ys : List Val} (ha : ys.all Val.atom = true) : cmpR .In (.str u) (.tup ys) h = .ok (.bl (ys.any fun z => Val.eqb z (.str u))) h := by
  simp only [cmpR, cmpV, inV?, ha, Val.atom]; simp
@[simp] theorem slc_str {s : List Nat} {l u : Option Int} : slcV h (.str s) l u = .ok (.str (cutL s l u)) h := rfl
@[simp] theorem slc_tup {s : List Val} {l u : Option Int} : slcV h (.tup s) l u = .ok (.tup (cutL s l u)) h := rfl
@[simp] theorem slc_fro {s : List Val} {l u : Option Int} : slcV h (.fro s) l u = .ok (.loc h.length) (h ++ [.lst (cutL s l u)]) := rfl
theorem tupR_ok {xs : List Val} (c : xs.length ≤ sizeLine) : tupR xs h = .ok (.tup xs) h := if_pos c
theorem lstR_ok {xs : List Val} (c : xs.length ≤ sizeLine) : lstR xs h = .ok (.loc h.length) (h ++ [.lst xs]) := if_pos c
theorem set_loc {n j : Nat} {k : Int} {vs : List Val} {v : Val} (hn : h[n]? = some (.lst vs)) (hj : ixN vs.length k = some j) : setV (.loc n) (.int k) v h = .ok () (h.set n (.lst (vs.set j v))) := by
  simp [setV, hn, hj]
theorem mt_append {n : Nat} {vs : List Val} {v : Val} (hn : h[n]? = some (.lst vs)) (c : vs.length < sizeLine) : mtV .append (.loc n) [v] h = .ok .non (h.set n (.lst (vs ++ [v]))) := by
  simp [mtV, hn, c]
theorem mtT_loc {n : Nat} {vs : List Val} (hn : h[n]? = some (.lst vs)) : mtT .append h (.loc n) = true ∧ mtT .pop h (.loc n) = true ∧ mtT .extend h (.loc n) = true := by
  simp [mtT, seqL, hn]
@[simp] theorem mtT_join {s : List Nat} : mtT .join h (.str s) = true := rfl
@[simp] theorem mtT_split {s : List Nat} : mtT .split h (.str s) = true := rfl
@[simp] theorem mtT_upper {s : List Nat} : mtT .upper h (.str s) = true := rfl
/-! statements -/
variable {s s1 s2 : S}
@[simp] theorem e_skip : evS call .skip ρ h = .nx ρ h := rfl
@[simp] theorem e_seq : evS call (.seq s1 s2) ρ h = (evS call s1 ρ h).andThen (evS call s2) := rfl
def asgR (t : NT) (ρ : Rho) (v : Val) (h : MH) : RS := match setN t v ρ with | some ρ' => .nx ρ' h | Option.none => .no
@[simp] theorem e_asg {t : NT} : evS call (.asg (.nt t) e) ρ h = ((ev call e).v ρ h).toS ρ (asgR t ρ) := rfl
@[simp] theorem asgR_nm {i : Nat} {v : Val} : asgR (.nm i) ρ v h = .nx (ρ.set i (some v)) h := rfl
@[simp] theorem e_sub {a b : E} : evS call (.asg (.sub a b) e) ρ h = ((ev call e).v ρ h).toS ρ fun v h1 => ((ev call a).v ρ h1).toS ρ fun x h2 => ((ev call b).v ρ h2).toS ρ fun y h3 => (setV x y v h3).toS ρ fun _ h4 => .nx ρ h4 := rfl
def augR (i : Nat) (op : Operator) (ρ : Rho) (x : Option Val) (r : R Val) : RS := match x, augF op with
      | some (.int a), some f => r.toS ρ fun y h1 => match y with
        | .int b => .nx (ρ.set i (some (.int (f a b)))) h1
        | _ => .no
      | _, _ => .no
@[simp] theorem e_aug {i : Nat} {op : Operator} : evS call (.aug i op e) ρ h = augR i op ρ (ρ[i]?).join ((ev call e).v ρ h) := rfl
@[simp] theorem augR_add {i : Nat} {a b : Int} : augR i .Add ρ (some (.int a)) (.ok (.int b) h) = .nx (ρ.set i (some (.int (a + b)))) h := rfl
@[simp] theorem augR_sub {i : Nat} {a b : Int} : augR i .Sub ρ (some (.int a)) (.ok (.int b) h) = .nx (ρ.set i (some (.int (a - b)))) h := rfl
@[simp] theorem e_expr : evS call (.expr e) ρ h = ((ev call e).v ρ h).toS ρ fun _ h1 => .nx ρ h1 := rfl
@[simp] theorem e_ret : evS call (.ret e) ρ h = ((ev call e).v ρ h).toS ρ fun v h1 => .rt v h1 := rfl
@[simp] theorem e_retn : evS call .retn ρ h = .rt .non h := rfl
@[simp] theorem e_ite : evS call (.ite c s1 s2) ρ h = ((ev call c).t ρ h).toS ρ fun x h1 => if x then evS call s1 ρ h1 else evS call s2 ρ h1 := rfl
@[simp] theorem e_whl : evS call (.whl c s) ρ h = whl (ev call c).t (evS call s) manyTurns ρ h := rfl
@[simp] theorem e_for {t : NT} : evS call (.for_ t it s) ρ h = ((ev call it).i ρ h).toS ρ fun its h1 => forL t (evS call s) its its.len 0 ρ h1 := rfl
@[simp] theorem e_brk : evS call .brk ρ h = .bk ρ h := rfl
@[simp] theorem e_cnt : evS call .cnt ρ h = .ct ρ h := rfl
@[simp] theorem e_never : evS call .never ρ h = .no := rfl
end
theorem atI_lt {α : Type} {xs : List α} {i : Nat} {v : α} (h : xs[i]? = some v) : atI xs (i : Int) = some v := atI_nat h
@[simp] theorem atI_0 {α : Type} {a : α} {r : List α} : atI (a :: r) 0 = some a := atI_nat (j := 0) rfl
@[simp] theorem atI_1 {α : Type} {a b : α} {r : List α} : atI (a :: b :: r) 1 = some b := atI_nat (j := 1) rfl
@[simp] theorem atI_2 {α : Type} {a b c : α} {r : List α} : atI (a :: b :: c :: r) 2 = some c := atI_nat (j := 2) rfl
@[simp] theorem atI_3 {α : Type} {a b c d : α} {r : List α} : atI (a :: b :: c :: d :: r) 3 = some d := atI_nat (j := 3) rfl
@[simp] theorem atI_4 {α : Type} {a b c d e : α} {r : List α} : atI (a :: b :: c :: d :: e :: r) 4 = some e := atI_nat (j := 4) rfl
@[simp] theorem atI_5 {α : Type} {a b c d e f : α} {r : List α} : atI (a :: b :: c :: d :: e :: f :: r) 5 = some f := atI_nat (j := 5) rfl
@[simp] theorem atI_6 {α : Type} {a b c d e f g : α} {r : List α} : atI (a :: b :: c :: d :: e :: f :: g :: r) 6 = some g := atI_nat (j := 6) rfl
@[simp] theorem atI_7 {α : Type} {a b c d e f g i : α} {r : List α} : atI (a :: b :: c :: d :: e :: f :: g :: i :: r) 7 = some i := atI_nat (j := 7) rfl
def fin (r : RS) : R Val := match r with
        | .rt v h' => .ok v h'
        | .nx _ h' => .ok .non h'
        | .ex c as _ h' => .ex c as h'
        | _ => .no
@[simp] theorem fin_rt {v : Val} {h : MH} : fin (.rt v h) = .ok v h := rfl
@[simp] theorem fin_nx {ρ : Rho} {h : MH} : fin (.nx ρ h) = .ok .non h := rfl
theorem callK_s {ft : List Fn} {k f : Nat} {vs : List Val} {h : MH} {F : Fn} (e : ft[f]? = some F) (hn : vs.length = F.np) (hl : F.np ≤ F.nn) :
    callK ft (k + 1) f vs h = fin (evS (callK ft k) F.body (vs.map some ++ List.replicate (F.nn - vs.length) Option.none) h) := by
  have q : callK ft (k + 1) f vs h = (match ft[f]? with
    | some F => if vs.length = F.np ∧ F.np ≤ F.nn then fin (evS (callK ft k) F.body (vs.map some ++ List.replicate (F.nn - vs.length) Option.none) h) else R.no
    | Option.none => R.no) := rfl
  rw [q, e]
  exact if_pos ⟨hn, hl⟩
end Gu
end

section
set_option linter.all false
set_option Elab.async false
/-! Gw: what holds behind a piece of the small language. -/
namespace Gu
open PySem L2
def Ok {α : Type} (r : R α) (P : α → MH → Prop) : Prop := ∃ a h, r = .ok a h ∧ P a h
def OkD (r : RS) (N : Rho → MH → Prop) (T : Val → MH → Prop) (B C : Rho → MH → Prop) : Prop :=
  match r with
  | .nx ρ h => N ρ h
  | .rt v h => T v h
  | .bk ρ h => B ρ h
  | .ct ρ h => C ρ h
  | _ => False
structure OkS (r : RS) (N : Rho → MH → Prop) (T : Val → MH → Prop) (B C : Rho → MH → Prop) : Prop where
  mk_ ::
  ok : OkD r N T B C
section
variable {α β : Type} {P Q : α → MH → Prop} {N N' : Rho → MH → Prop} {T T' : Val → MH → Prop} {B B' C C' : Rho → MH → Prop} {ρ : Rho} {h : MH}
@[simp] theorem Ok_ok {a : α} : Ok (.ok a h) P ↔ P a h := by
  constructor
  · rintro ⟨a, h, e, p⟩; cases e; exact p
  · intro p; exact ⟨_, _, rfl, p⟩
@[simp] theorem Ok_bind {r : R β} {f : β → MH → R α} : Ok (r.bind f) P ↔ Ok r (fun a h => Ok (f a h) P) := by
  cases r with
  | no => simp [Ok]
  | ok a h => show Ok (f a h) P ↔ Ok (.ok a h) _; rw [Ok_ok]
  | ex a b c => simp [Ok]
@[simp] theorem Ok_some {a : α} : Ok (R.ofO (some a) h) P ↔ P a h := Ok_ok
@[simp] theorem Ok_if {c : Prop} [Decidable c] {r s : R α} : Ok (if c then r else s) P ↔ (c → Ok r P) ∧ (¬c → Ok s P) := by
  by_cases c <;> simp [*]
theorem Ok.mono {r : R α} (o : Ok r P) (i : ∀ a h, P a h → Q a h) : Ok r Q := by
  obtain ⟨a, h, e, p⟩ := o; exact ⟨a, h, e, i a h p⟩
theorem OkS_d {r : RS} : OkS r N T B C ↔ OkD r N T B C := ⟨fun x => x.ok, fun x => ⟨x⟩⟩
@[simp] theorem OkS_nx : OkS (.nx ρ h) N T B C ↔ N ρ h := OkS_d
@[simp] theorem OkS_rt {v : Val} : OkS (.rt v h) N T B C ↔ T v h := OkS_d
@[simp] theorem OkS_bk : OkS (.bk ρ h) N T B C ↔ B ρ h := OkS_d
@[simp] theorem OkS_ct : OkS (.ct ρ h) N T B C ↔ C ρ h := OkS_d
@[simp] theorem OkS_no : OkS .no N T B C ↔ False := OkS_d
@[simp] theorem OkS_exx {c : Nat} {as : List Val} : OkS (.ex c as ρ h) N T B C ↔ False := OkS_d
@[simp] theorem OkS_then {r : RS} {f : Rho → MH → RS} : OkS (r.andThen f) N T B C ↔ OkS r (fun ρ h => OkS (f ρ h) N T B C) T B C := by
  cases r <;> simp [RS.andThen]
@[simp] theorem OkS_toS {r : R α} {f : α → MH → RS} : OkS (r.toS ρ f) N T B C ↔ Ok r (fun a h => OkS (f a h) N T B C) := by
  cases r with
  | no => simp [Ok]
  | ok a h => show OkS (f a h) N T B C ↔ Ok (.ok a h) _; rw [Ok_ok]
  | ex a b c => simp [Ok]
@[simp] theorem OkS_if {c : Prop} [Decidable c] {r s : RS} : OkS (if c then r else s) N T B C ↔ (c → OkS r N T B C) ∧ (¬c → OkS s N T B C) := by
  by_cases c <;> simp [*]
theorem OkS.mono {r : RS} (o : OkS r N T B C) (n : ∀ ρ h, N ρ h → N' ρ h) (t : ∀ v h, T v h → T' v h) (b : ∀ ρ h, B ρ h → B' ρ h) (c : ∀ ρ h, C ρ h → C' ρ h) : OkS r N' T' B' C' := by
  cases r <;> simp at o ⊢ <;> first | exact n _ _ o | exact t _ _ o | exact b _ _ o | exact c _ _ o
/-- in two parts -/
theorem OkS_cut {r : RS} {f : Rho → MH → RS} (M : Rho → MH → Prop) (o : OkS r M T B C) (n : ∀ ρ h, M ρ h → OkS (f ρ h) N T B C) : OkS r (fun ρ h => OkS (f ρ h) N T B C) T B C :=
  o.mono n (fun _ _ p => p) (fun _ _ p => p) (fun _ _ p => p)
theorem Ok_call {ft : List Fn} {k f : Nat} {vs : List Val} {h : MH} {F : Fn} {P : Val → MH → Prop} (e : ft[f]? = some F) (hn : vs.length = F.np) (hl : F.np ≤ F.nn)
    (H : OkS (evS (callK ft k) F.body (vs.map some ++ List.replicate (F.nn - vs.length) Option.none) h) (fun _ h => P .non h) P (fun _ _ => False) (fun _ _ => False)) : Ok (callK ft (k + 1) f vs h) P := by
  rw [callK_s e hn hl]
  rw [OkS_d] at H
  revert H
  cases evS (callK ft k) F.body (vs.map some ++ List.replicate (F.nn - vs.length) Option.none) h <;> first | exact fun p => p.elim | exact fun p => ⟨_, _, rfl, p⟩
/-- a loop by a measure -/
theorem whl_ok {c : Rho → MH → R Bool} {b : Rho → MH → RS} (I : Nat → Rho → MH → Prop)
    (step : ∀ m ρ h, I m ρ h → Ok (c ρ h) fun x h1 => (x = true → OkS (b ρ h1) (fun ρ' h' => ∃ m', m' < m ∧ I m' ρ' h') T N (fun ρ' h' => ∃ m', m' < m ∧ I m' ρ' h')) ∧ (x = false → N ρ h1)) :
    ∀ (n m : Nat) (ρ : Rho) (h : MH), m < n → I m ρ h → OkS (whl c b n ρ h) N T B C := by
  intro n
  induction n with
  | zero => intro m ρ h hm; omega
  | succ n ih =>
    intro m ρ h hm i
    have s := step m ρ h i
    show OkS ((c ρ h).toS ρ _) N T B C
    rw [OkS_toS]
    refine s.mono ?_
    intro x h1 ⟨p, q⟩
    cases x with
    | false => simpa using q rfl
    | true =>
      have p := p rfl
      simp only [if_true]
      rw [OkS_d] at p ⊢
      revert p
      cases b ρ h1 with
      | nx ρ' h' => rintro ⟨m', l, i'⟩; exact (ih m' ρ' h' (by omega) i').ok
      | ct ρ' h' => rintro ⟨m', l, i'⟩; exact (ih m' ρ' h' (by omega) i').ok
      | bk ρ' h' => exact fun p => p
      | rt v h' => exact fun p => p
      | no => exact fun p => p.elim
      | ex a b c d => exact fun p => p.elim
/-- a for loop by its turns -/
theorem forL_ok {t : NT} {b : Rho → MH → RS} {it : Items} (I : Nat → Rho → MH → Prop)
    (step : ∀ i ρ h, i < it.len → I i ρ h → ∃ x ρ1, it.get h i = some x ∧ setN t x ρ = some ρ1 ∧ OkS (b ρ1 h) (I (i + 1)) T N (I (i + 1)))
    (last : ∀ ρ h, I it.len ρ h → it.fin h = true ∧ N ρ h) :
    ∀ (m i : Nat) (ρ : Rho) (h : MH), i + m = it.len → I i ρ h → OkS (forL t b it m i ρ h) N T B C := by
  intro m
  induction m with
  | zero =>
    intro i ρ h e p
    have e : i = it.len := by omega
    subst e
    have l := last ρ h p
    show OkS (if it.fin h then .nx ρ h else .no) N T B C
    rw [if_pos l.1]; exact OkS_d.2 l.2
  | succ m ih =>
    intro i ρ h e p
    obtain ⟨x, ρ1, g, s, o⟩ := step i ρ h (by omega) p
    show OkS (match it.get h i with
      | some x => match setN t x ρ with
        | some ρ1 => match b ρ1 h with
          | .nx ρ' h' => forL t b it m (i + 1) ρ' h'
          | .ct ρ' h' => forL t b it m (i + 1) ρ' h'
          | .bk ρ' h' => .nx ρ' h'
          | r => r
        | Option.none => .no
      | Option.none => .no) N T B C
    rw [g]; simp only [s]
    rw [OkS_d] at o ⊢
    revert o
    cases b ρ1 h with
    | nx ρ' h' => exact fun i' => (ih _ ρ' h' (by omega) i').ok
    | ct ρ' h' => exact fun i' => (ih _ ρ' h' (by omega) i').ok
    | bk ρ' h' => exact fun p => p
    | rt v h' => exact fun p => p
    | no => exact fun p => p.elim
    | ex a b c d => exact fun p => p.elim
/-- over a range -/
theorem forR_ok {i0 : Nat} {b : Rho → MH → RS} {lo : Int} {n : Nat} (I : Nat → Rho → MH → Prop)
    (step : ∀ i ρ h, i < n → I i ρ h → OkS (b (ρ.set i0 (some (.int (lo + i)))) h) (I (i + 1)) T N (I (i + 1)))
    (last : ∀ ρ h, I n ρ h → N ρ h) (o : I 0 ρ h) :
    OkS (forL (.nm i0) b (.rng lo n) n 0 ρ h) N T B C :=
  forL_ok (it := .rng lo n) I (fun i ρ h l p => ⟨_, _, rfl, rfl, step i ρ h l p⟩) (fun ρ h p => ⟨rfl, last ρ h p⟩) n 0 ρ h (by simp [Items.len]) o
/-- over values -/
theorem forV_ok {i0 : Nat} {b : Rho → MH → RS} {xs : List Val} (I : Nat → Rho → MH → Prop)
    (step : ∀ i ρ h x, xs[i]? = some x → I i ρ h → OkS (b (ρ.set i0 (some x)) h) (I (i + 1)) T N (I (i + 1)))
    (last : ∀ ρ h, I xs.length ρ h → N ρ h) (o : I 0 ρ h) :
    OkS (forL (.nm i0) b (.vals xs) xs.length 0 ρ h) N T B C :=
  forL_ok (it := .vals xs) I (fun i ρ h l p => ⟨xs[i]'(by simpa [Items.len] using l), _, List.getElem?_eq_getElem (by simpa [Items.len] using l), rfl, step i ρ h _ (List.getElem?_eq_getElem (by simpa [Items.len] using l)) p⟩) (fun ρ h p => ⟨rfl, last ρ h p⟩) xs.length 0 ρ h (by simp [Items.len]) o
end
/-! lists -/
theorem atI_mem {α : Type} {s : List α} {n : Nat} (l : n < s.length) : ∃ c, atI s (n : Int) = some c ∧ s[n]? = some c ∧ c ∈ s :=
  ⟨s[n], atI_lt (List.getElem?_eq_getElem l), List.getElem?_eq_getElem l, List.getElem_mem l⟩
/-- the heap but one place stays -/
def Fr (d : Nat) (h h' : MH) : Prop := h.length ≤ h'.length ∧ ∀ n, n < h.length → n ≠ d → h'[n]? = h[n]?
theorem Fr.refl (d : Nat) (h : MH) : Fr d h h := ⟨Nat.le_refl _, fun _ _ _ => rfl⟩
theorem Fr.trans {d : Nat} {h h1 h2 : MH} (a : Fr d h h1) (b : Fr d h1 h2) : Fr d h h2 :=
  ⟨Nat.le_trans a.1 b.1, fun n l e => by rw [b.2 n (by have := a.1; omega) e, a.2 n l e]⟩
theorem Fr.set (d : Nat) (h : MH) (o : MO) : Fr d h (h.set d o) := by
  refine ⟨by simp, fun n l e => ?_⟩
  rw [List.getElem?_set]; simp [Ne.symm e]
theorem Fr.app (d : Nat) (h : MH) (os : List MO) : Fr d h (h ++ os) :=
  ⟨by simp, fun n l e => by rw [List.getElem?_append_left l]⟩
theorem Fr.get {d n : Nat} {h h' : MH} {o : MO} (f : Fr d h h') (e : n ≠ d) (g : h[n]? = some o) : h'[n]? = some o := by
  have l : n < h.length := by
    rcases Nat.lt_or_ge n h.length with l | l
    · exact l
    · rw [List.getElem?_eq_none l] at g; cases g
  rw [f.2 n l e]; exact g
end Gu
namespace Gu
open PySem L2
theorem set_ok {n j : Nat} {k : Int} {vs : List Val} {v : Val} {h : MH} {P : Unit → MH → Prop} (hn : h[n]? = some (.lst vs)) (hj : ixN vs.length k = some j)
    (H : ∀ h', h'[n]? = some (.lst (vs.set j v)) → Fr n h h' → P () h') : Ok (setV (.loc n) (.int k) v h) P := by
  rw [set_loc hn hj, Ok_ok]
  apply H _ _ (Fr.set _ _ _)
  have l : n < h.length := by
    rcases Nat.lt_or_ge n h.length with l | l
    · exact l
    · rw [List.getElem?_eq_none l] at hn; cases hn
  rw [List.getElem?_set_self l]
theorem lg {i : Int} {n : Nat} (h : i.natAbs < 2 ^ n) : i.natAbs.log2 ≤ n := by
  rcases Nat.eq_zero_or_pos i.natAbs with e | e
  · rw [e]; simp
  · have := (Nat.log2_lt (by omega)).2 h; omega
/-- the draws' list: where it stands, how many were made at most -/
def Dr (h : MH) (d B : Nat) : Prop := ∃ (c : Nat) (a b e : Int) (cs : List Int), h[d]? = some (.lst [.loc c, .int a, .int b, .int e]) ∧ h[c]? = some (.lst (cs.map .int)) ∧ c < d ∧ 0 ≤ a ∧ a ≤ cs.length ∧ 0 ≤ b ∧ 0 ≤ e ∧ e ≤ B
theorem Dr.mono {h : MH} {d B B' : Nat} (x : Dr h d B) (l : B ≤ B') : Dr h d B' := by
  obtain ⟨c, a, b, e, cs, h1, h2, h3, h4, h5, h6, h7, h8⟩ := x
  exact ⟨c, a, b, e, cs, h1, h2, h3, h4, h5, h6, h7, by omega⟩
theorem Dr.lt {h : MH} {d B : Nat} (x : Dr h d B) : d < h.length := by
  obtain ⟨c, a, b, e, cs, h1, h2⟩ := x
  rcases Nat.lt_or_ge d h.length with l | l
  · exact l
  · rw [List.getElem?_eq_none l] at h1; cases h1
theorem Dr.fr {h h' : MH} {d u B : Nat} (x : Dr h d B) (l : d < u) (f : Fr u h h') : Dr h' d B := by
  obtain ⟨c, a, b, e, cs, h1, h2, h3, h4⟩ := x
  exact ⟨c, a, b, e, cs, f.get (by omega) h1, f.get (by omega) h2, h3, h4⟩
theorem Dr.app {h : MH} {d B : Nat} (x : Dr h d B) (os : List MO) : Dr (h ++ os) d B := by
  obtain ⟨c, a, b, e, cs, h1, h2, h3, h4⟩ := x
  refine ⟨c, a, b, e, cs, ?_, ?_, h3, h4⟩
  · have l : d < h.length := by
      rcases Nat.lt_or_ge d h.length with l | l
      · exact l
      · rw [List.getElem?_eq_none l] at h1; cases h1
    rw [List.getElem?_append_left l]; exact h1
  · have l : c < h.length := by
      rcases Nat.lt_or_ge c h.length with l | l
      · exact l
      · rw [List.getElem?_eq_none l] at h2; cases h2
    rw [List.getElem?_append_left l]; exact h2
theorem atI_last {α : Type} {s : List α} (l : s ≠ []) : ∃ v, atI s (-1) = some v ∧ v ∈ s := by
  have q : 0 < s.length := List.length_pos_iff.2 l
  refine ⟨s[s.length - 1], ?_, List.getElem_mem _⟩
  unfold atI ixN
  rw [if_neg (by decide), if_pos (by omega)]
  have : (-1 + (s.length : Int)).toNat = s.length - 1 := by omega
  simp only [Option.bind_some, this]
  exact List.getElem?_eq_getElem (by omega)
@[simp] theorem bin_pow18 {h : MH} : binV .Pow (.int 10) (.int 18) h = .ok (.int 1000000000000000000) h := rfl
end Gu
namespace Gu
open PySem L2
theorem addL_ok {n : Nat} {y : Val} {acc : List Val} {h : MH} {P : Unit → MH → Prop} (hn : h[n]? = some (.lst acc)) (c : acc.length < sizeLine) (H : P () (h.set n (.lst (acc ++ [y])))) : Ok (addL n y h) P := by
  unfold addL; rw [hn]; simp only [if_pos c]; exact Ok_ok.2 H
theorem clLoop_ok {t : NT} {ρ : Rho} {cnd : Rho → MH → R Bool} {body : Rho → MH → R Unit} {it : Items} {P : Unit → MH → Prop} (I : Nat → MH → Prop)
    (step : ∀ i h, i < it.len → I i h → ∃ x ρ', it.get h i = some x ∧ setN t x ρ = some ρ' ∧ Ok (cnd ρ' h) fun c h0 => (c = true → Ok (body ρ' h0) fun _ h1 => I (i + 1) h1) ∧ (c = false → I (i + 1) h0))
    (last : ∀ h, I it.len h → it.fin h = true ∧ P () h) :
    ∀ (m i : Nat) (h : MH), i + m = it.len → I i h → Ok (clLoop t ρ cnd body it m i h) P := by
  intro m
  induction m with
  | zero =>
    intro i h e p
    have e : i = it.len := by omega
    subst e
    have l := last h p
    show Ok (if it.fin h then .ok () h else .no) P
    rw [if_pos l.1, Ok_ok]; exact l.2
  | succ m ih =>
    intro i h e p
    obtain ⟨x, ρ', g, s, c, h0, ec, o1, o2⟩ := step i h (by omega) p
    unfold clLoop
    rw [g]; simp only [s, ec]
    cases c with
    | true =>
      obtain ⟨y, h1, ee, i'⟩ := o1 rfl
      simp only [ee]
      exact ih _ _ (by omega) i'
    | false => exact ih _ _ (by omega) (o2 rfl)
/-- a comprehension by its turns -/
theorem lcLoop_ok {D : Nat} {t : NT} {ρ : Rho} {cnd : Rho → MH → R Bool} {elt : Rho → MH → R Val} {it : Items} {P : Val → MH → Prop} (I : Nat → MH → Prop)
    (step : ∀ i h, i < it.len → I i h → ∃ x ρ', it.get h i = some x ∧ setN t x ρ = some ρ' ∧ Ok (cnd ρ' h) fun c h0 => (c = true → Ok (elt ρ' h0) fun y h1 => ∃ acc, h1[D]? = some (.lst acc) ∧ acc.length < sizeLine ∧ I (i + 1) (h1.set D (.lst (acc ++ [y])))) ∧ (c = false → I (i + 1) h0))
    (last : ∀ h, I it.len h → it.fin h = true ∧ P (.loc D) h) :
    ∀ (m i : Nat) (h : MH), i + m = it.len → I i h → Ok (lcLoop D t ρ cnd elt it m i h) P := by
  intro m
  induction m with
  | zero =>
    intro i h e p
    have e : i = it.len := by omega
    subst e
    have l := last h p
    show Ok (if it.fin h then .ok (.loc D) h else .no) P
    rw [if_pos l.1, Ok_ok]; exact l.2
  | succ m ih =>
    intro i h e p
    obtain ⟨x, ρ', g, s, c, h0, ec, o1, o2⟩ := step i h (by omega) p
    unfold lcLoop
    rw [g]; simp only [s, ec]
    cases c with
    | true =>
      obtain ⟨y, h1, ee, acc, ea, la, i'⟩ := o1 rfl
      simp only [ee, ea, if_pos la]
      exact ih _ _ (by omega) i'
    | false => exact ih _ _ (by omega) (o2 rfl)
end Gu
end

section
set_option linter.all false
set_option Elab.async false
/-! Gy: what holds behind a piece of the small language, exceptions too. -/
namespace Gu
open PySem L2
def OkED {α : Type} (r : R α) (P : α → MH → Prop) (E : Nat → List Val → MH → Prop) : Prop :=
  match r with
  | .ok a h => P a h
  | .ex c as h => E c as h
  | .no => False
structure OkE {α : Type} (r : R α) (P : α → MH → Prop) (E : Nat → List Val → MH → Prop) : Prop where
  mk_ ::
  ok : OkED r P E
def OkYD (r : RS) (N : Rho → MH → Prop) (T : Val → MH → Prop) (B C : Rho → MH → Prop) (X : Nat → List Val → Rho → MH → Prop) : Prop :=
  match r with
  | .nx ρ h => N ρ h
  | .rt v h => T v h
  | .bk ρ h => B ρ h
  | .ct ρ h => C ρ h
  | .ex c as ρ h => X c as ρ h
  | .no => False
structure OkXS (r : RS) (N : Rho → MH → Prop) (T : Val → MH → Prop) (B C : Rho → MH → Prop) (X : Nat → List Val → Rho → MH → Prop) : Prop where
  mk_ ::
  ok : OkYD r N T B C X
section
variable {α β : Type} {P Q : α → MH → Prop} {E E' : Nat → List Val → MH → Prop} {N N' : Rho → MH → Prop} {T T' : Val → MH → Prop} {B B' C C' : Rho → MH → Prop} {X X' : Nat → List Val → Rho → MH → Prop} {ρ : Rho} {h : MH}
theorem OkE_d {r : R α} : OkE r P E ↔ OkED r P E := ⟨fun x => x.ok, fun x => ⟨x⟩⟩
@[simp] theorem OkE_ok {a : α} : OkE (.ok a h) P E ↔ P a h := OkE_d
@[simp] theorem OkE_ex {c : Nat} {as : List Val} : OkE (.ex c as h : R α) P E ↔ E c as h := OkE_d
@[simp] theorem OkE_no : OkE (.no : R α) P E ↔ False := OkE_d
@[simp] theorem OkE_bind {r : R β} {f : β → MH → R α} : OkE (r.bind f) P E ↔ OkE r (fun a h => OkE (f a h) P E) E := by
  cases r <;> simp [R.bind]
@[simp] theorem OkE_some {a : α} : OkE (R.ofO (some a) h) P E ↔ P a h := OkE_d
@[simp] theorem OkE_if {c : Prop} [Decidable c] {r s : R α} : OkE (if c then r else s) P E ↔ (c → OkE r P E) ∧ (¬c → OkE s P E) := by
  by_cases c <;> simp [*]
theorem OkE.mono {r : R α} (o : OkE r P E) (i : ∀ a h, P a h → Q a h) (j : ∀ c as h, E c as h → E' c as h) : OkE r Q E' := by
  cases r <;> simp at o ⊢ <;> first | exact i _ _ o | exact j _ _ _ o
theorem Ok.toE {r : R α} (o : Ok r P) : OkE r P E := by
  obtain ⟨a, h, rfl, p⟩ := o; exact OkE_ok.2 p
theorem OkXS_d {r : RS} : OkXS r N T B C X ↔ OkYD r N T B C X := ⟨fun x => x.ok, fun x => ⟨x⟩⟩
@[simp] theorem OkXS_nx : OkXS (.nx ρ h) N T B C X ↔ N ρ h := OkXS_d
@[simp] theorem OkXS_rt {v : Val} : OkXS (.rt v h) N T B C X ↔ T v h := OkXS_d
@[simp] theorem OkXS_bk : OkXS (.bk ρ h) N T B C X ↔ B ρ h := OkXS_d
@[simp] theorem OkXS_ct : OkXS (.ct ρ h) N T B C X ↔ C ρ h := OkXS_d
@[simp] theorem OkXS_no : OkXS .no N T B C X ↔ False := OkXS_d
@[simp] theorem OkXS_ex {c : Nat} {as : List Val} : OkXS (.ex c as ρ h) N T B C X ↔ X c as ρ h := OkXS_d
@[simp] theorem OkXS_then {r : RS} {f : Rho → MH → RS} : OkXS (r.andThen f) N T B C X ↔ OkXS r (fun ρ h => OkXS (f ρ h) N T B C X) T B C X := by
  cases r <;> simp [RS.andThen]
@[simp] theorem OkXS_toS {r : R α} {f : α → MH → RS} : OkXS (r.toS ρ f) N T B C X ↔ OkE r (fun a h => OkXS (f a h) N T B C X) (fun c as h => X c as ρ h) := by
  cases r <;> simp [R.toS]
@[simp] theorem OkXS_if {c : Prop} [Decidable c] {r s : RS} : OkXS (if c then r else s) N T B C X ↔ (c → OkXS r N T B C X) ∧ (¬c → OkXS s N T B C X) := by
  by_cases c <;> simp [*]
theorem OkXS.mono {r : RS} (o : OkXS r N T B C X) (n : ∀ ρ h, N ρ h → N' ρ h) (t : ∀ v h, T v h → T' v h) (b : ∀ ρ h, B ρ h → B' ρ h) (c : ∀ ρ h, C ρ h → C' ρ h) (x : ∀ c as ρ h, X c as ρ h → X' c as ρ h) : OkXS r N' T' B' C' X' := by
  cases r <;> simp at o ⊢ <;> first | exact n _ _ o | exact t _ _ o | exact b _ _ o | exact c _ _ o | exact x _ _ _ _ o
theorem OkS.toX {r : RS} (o : OkS r N T B C) : OkXS r N T B C X := by
  cases r <;> simp at o ⊢ <;> exact o
theorem OkE_call {ft : List Fn} {k f : Nat} {vs : List Val} {h : MH} {F : Fn} {P : Val → MH → Prop} (e : ft[f]? = some F) (hn : vs.length = F.np) (hl : F.np ≤ F.nn)
    (H : OkXS (evS (callK ft k) F.body (vs.map some ++ List.replicate (F.nn - vs.length) Option.none) h) (fun _ h => P .non h) P (fun _ _ => False) (fun _ _ => False) (fun c as _ h => E c as h)) : OkE (callK ft (k + 1) f vs h) P E := by
  rw [callK_s e hn hl]
  rw [OkXS_d] at H
  revert H
  cases evS (callK ft k) F.body (vs.map some ++ List.replicate (F.nn - vs.length) Option.none) h <;> first | exact fun p => p.elim | exact fun p => OkE_d.2 p
/-- a loop by a measure -/
theorem whl_okX {c : Rho → MH → R Bool} {b : Rho → MH → RS} (I : Nat → Rho → MH → Prop)
    (step : ∀ m ρ h, I m ρ h → OkE (c ρ h) (fun x h1 => (x = true → OkXS (b ρ h1) (fun ρ' h' => ∃ m', m' < m ∧ I m' ρ' h') T N (fun ρ' h' => ∃ m', m' < m ∧ I m' ρ' h') X) ∧ (x = false → N ρ h1)) (fun c as h => X c as ρ h)) :
    ∀ (n m : Nat) (ρ : Rho) (h : MH), m < n → I m ρ h → OkXS (whl c b n ρ h) N T B C X := by
  intro n
  induction n with
  | zero => intro m ρ h hm; omega
  | succ n ih =>
    intro m ρ h hm i
    have s := step m ρ h i
    show OkXS ((c ρ h).toS ρ _) N T B C X
    rw [OkXS_toS]
    refine s.mono ?_ fun _ _ _ p => p
    intro x h1 ⟨p, q⟩
    cases x with
    | false => simpa using q rfl
    | true =>
      have p := p rfl
      simp only [if_true]
      rw [OkXS_d] at p ⊢
      revert p
      cases b ρ h1 with
      | nx ρ' h' => rintro ⟨m', l, i'⟩; exact (ih m' ρ' h' (by omega) i').ok
      | ct ρ' h' => rintro ⟨m', l, i'⟩; exact (ih m' ρ' h' (by omega) i').ok
      | bk ρ' h' => exact fun p => p
      | rt v h' => exact fun p => p
      | no => exact fun p => p.elim
      | ex a b c d => exact fun p => p
theorem forL_okX {t : NT} {b : Rho → MH → RS} {it : Items} (I : Nat → Rho → MH → Prop)
    (step : ∀ i ρ h, i < it.len → I i ρ h → ∃ x ρ1, it.get h i = some x ∧ setN t x ρ = some ρ1 ∧ OkXS (b ρ1 h) (I (i + 1)) T N (I (i + 1)) X)
    (last : ∀ ρ h, I it.len ρ h → it.fin h = true ∧ N ρ h) :
    ∀ (m i : Nat) (ρ : Rho) (h : MH), i + m = it.len → I i ρ h → OkXS (forL t b it m i ρ h) N T B C X := by
  intro m
  induction m with
  | zero =>
    intro i ρ h e p
    have e : i = it.len := by omega
    subst e
    have l := last ρ h p
    show OkXS (if it.fin h then .nx ρ h else .no) N T B C X
    rw [if_pos l.1]; exact OkXS_d.2 l.2
  | succ m ih =>
    intro i ρ h e p
    obtain ⟨x, ρ1, g, s, o⟩ := step i ρ h (by omega) p
    show OkXS (match it.get h i with
      | some x => match setN t x ρ with
        | some ρ1 => match b ρ1 h with
          | .nx ρ' h' => forL t b it m (i + 1) ρ' h'
          | .ct ρ' h' => forL t b it m (i + 1) ρ' h'
          | .bk ρ' h' => .nx ρ' h'
          | r => r
        | Option.none => .no
      | Option.none => .no) N T B C X
    rw [g]; simp only [s]
    rw [OkXS_d] at o ⊢
    revert o
    cases b ρ1 h with
    | nx ρ' h' => exact fun i' => (ih _ ρ' h' (by omega) i').ok
    | ct ρ' h' => exact fun i' => (ih _ ρ' h' (by omega) i').ok
    | bk ρ' h' => exact fun p => p
    | rt v h' => exact fun p => p
    | no => exact fun p => p.elim
    | ex a b c d => exact fun p => p
theorem forV_okX {i0 : Nat} {b : Rho → MH → RS} {xs : List Val} (I : Nat → Rho → MH → Prop)
    (step : ∀ i ρ h x, xs[i]? = some x → I i ρ h → OkXS (b (ρ.set i0 (some x)) h) (I (i + 1)) T N (I (i + 1)) X)
    (last : ∀ ρ h, I xs.length ρ h → N ρ h) (o : I 0 ρ h) :
    OkXS (forL (.nm i0) b (.vals xs) xs.length 0 ρ h) N T B C X :=
  forL_okX (it := .vals xs) I (fun i ρ h l p => ⟨xs[i]'(by simpa [Items.len] using l), _, List.getElem?_eq_getElem (by simpa [Items.len] using l), rfl, step i ρ h _ (List.getElem?_eq_getElem (by simpa [Items.len] using l)) p⟩) (fun ρ h p => ⟨rfl, last ρ h p⟩) xs.length 0 ρ h (by simp [Items.len]) o
/-! raise, try -/
@[simp] theorem s_raise {call : CallT} {c : Nat} {es : Gu.E} : evS call (.raise c es) ρ h = ((ev call es).a ρ h).toS ρ fun vs h1 => if vs.all Val.atom then .ex c vs ρ h1 else .no := rfl
@[simp] theorem s_try {call : CallT} {b : S} {hs : List (List Nat × Nat × EhS)} : evS call (.try_ b hs) ρ h = tryR hs (evS call b ρ h) := rfl
@[simp] theorem OkXS_try {r : RS} {hs : List (List Nat × Nat × EhS)} : OkXS (tryR hs r) N T B C X ↔ OkXS r N T B C (fun c as ρ h => OkXS (runHs c as ρ h hs) N T B C X) := by
  cases r <;> simp [tryR]
end
end Gu
end

section
set_option linter.all false
set_option Elab.async false
/-! Go2: rules for simp for objects, dicts with a heap. -/
namespace Gu
open PySem L2
section
variable {call : CallT} {ρ : Rho} {h : MH} {a b c o e es : E} {f m : Str} {k n : Nat}
def fldR (f : Str) (x : Val) (h : MH) : R Val := R.ofO (fldV h x f) h
@[simp] theorem v_fld : (ev call (.fld a f)).v ρ h = ((ev call a).v ρ h).bind (fldR f) := rfl
@[simp] theorem i_fld : (ev call (.fld a f)).i ρ h = ((ev call (.fld a f)).v ρ h).bind itR := rfl
@[simp] theorem t_fld : (ev call (.fld a f)).t ρ h = ((ev call (.fld a f)).v ρ h).bind truR := rfl
@[simp] theorem v_mcl {cl : Str} : (ev call (.mcl k cl m o es)).v ρ h = ((ev call o).v ρ h).bind fun x h1 => if isObj h1 x cl m then ((ev call es).a ρ h1).bind fun xs h2 => call k (x :: xs) h2 else .no := rfl
@[simp] theorem i_mcl {cl : Str} : (ev call (.mcl k cl m o es)).i ρ h = ((ev call (.mcl k cl m o es)).v ρ h).bind itR := rfl
@[simp] theorem t_mcl {cl : Str} : (ev call (.mcl k cl m o es)).t ρ h = ((ev call (.mcl k cl m o es)).v ρ h).bind truR := rfl
@[simp] theorem v_new {cl : Str} : (ev call (.new k cl es)).v ρ h = ((ev call es).a ρ h).bind fun xs h1 => (call k (.loc h1.length :: xs) (h1 ++ [.obj cl []])).bind fun v h2 => if v.isNon then .ok (.loc h1.length) h2 else .no := rfl
@[simp] theorem e_fset {cl : Str} : evS call (.fset cl o f e) ρ h = ((ev call e).v ρ h).toS ρ fun v h1 => ((ev call o).v ρ h1).toS ρ fun x h2 => (fsetV cl f x v h2).toS ρ fun _ h3 => .nx ρ h3 := rfl
theorem fldR_ok {cl : Str} {fs : List (Str × Val)} (g : h[n]? = some (.obj cl fs)) : fldR f (.loc n) h = R.ofO (fs.lookup f) h := by simp [fldR, fldV, g]
theorem isObj_ok {cl : Str} {fs : List (Str × Val)} (g : h[n]? = some (.obj cl fs)) : isObj h (.loc n) cl m = (fs.lookup m).isNone := by simp [isObj, g]
theorem fset_ok {cl : Str} {fs : List (Str × Val)} {v : Val} (g : h[n]? = some (.obj cl fs)) (l : fs.length < 1000) : fsetV cl f (.loc n) v h = .ok () (h.set n (.obj cl (putA f v fs))) := by simp [fsetV, g, l]
/-! dicts -/
@[simp] theorem v_dnew : (ev call .dnew).v ρ h = .ok (.loc h.length) (h ++ [.dct []]) := rfl
def dgetR (x y : Val) (h : MH) : R Val := R.ofO (dgetV h x y) h
@[simp] theorem v_dget : (ev call (.dget a b)).v ρ h = ((ev call a).v ρ h).bind fun x h1 => ((ev call b).v ρ h1).bind fun y h2 => dgetR x y h2 := rfl
def dinR (ng : Bool) (x y : Val) (h : MH) : R Val := R.ofO (dinV ng h x y) h
@[simp] theorem v_din {ng : Bool} : (ev call (.din ng a b)).v ρ h = ((ev call a).v ρ h).bind fun x h1 => ((ev call b).v ρ h1).bind fun y h2 => dinR ng x y h2 := rfl
@[simp] theorem t_din {ng : Bool} : (ev call (.din ng a b)).t ρ h = (((ev call a).v ρ h).bind fun x h1 => ((ev call b).v ρ h1).bind fun y h2 => dinR ng x y h2).bind blR := rfl
@[simp] theorem e_dput {d k : E} : evS call (.dput d k e) ρ h = ((ev call e).v ρ h).toS ρ fun v h1 => ((ev call d).v ρ h1).toS ρ fun x h2 => ((ev call k).v ρ h2).toS ρ fun y h3 => (dputV x y v h3).toS ρ fun _ h4 => .nx ρ h4 := rfl
@[simp] theorem v_dc {own : List Nat} {t : NT} {it cond kx vx : E} : (ev call (.dc own t it cond kx vx)).v ρ h = ((ev call it).i ρ h).bind fun its h1 => dcLoop h1.length t (wipeR ρ own) (ev call cond).t (ev call kx).v (ev call vx).v its its.len 0 (h1 ++ [.dct []]) := rfl
def enmR (x : Val) (h : MH) : R Items := R.ofO (enmOf h x) h
@[simp] theorem i_enm : (ev call (.enm a)).i ρ h = ((ev call a).v ρ h).bind enmR := rfl
end
end Gu
end

section
set_option linter.all false
set_option Elab.async false
namespace Gu
open PySem L2
/-! k56: the heap by plain values; what a collection does, as relations that both sides follow -/
inductive F where
  | at (a : Int) | int (i : Int) | tag (i : Int)
inductive Wd where
  | int (i : Int) | str (s : List Nat)
structure Ob where
  kind : List Nat
  word : Wd
  fs : List F
def F.v : F → Val
  | .at a => .tup [.str [97, 116], .int a]
  | .int i => .tup [.str [105, 110, 116], .int i]
  | .tag i => .tup [.str [116, 97, 103], .int i]
def Wd.v : Wd → Val
  | .int i => .int i
  | .str s => .str s
def Ob.v (o : Ob) : Val := .tup [.str o.kind, o.word.v, .tup (o.fs.map F.v)]
def yng : F → Bool
  | .at a => decide (a < 0)
  | _ => false
def isAt : F → Bool
  | .at _ => true
  | _ => false
/-- an address that there is -/
def Vd (ny no : Nat) : F → Prop
  | .at a => if a < 0 then (-a - 1).toNat < ny else a.toNat < no
  | _ => True
def Old (no : Nat) : F → Prop
  | .at a => 0 ≤ a ∧ a.toNat < no
  | _ => True
theorem Vd.mono {ny no ny' no' : Nat} {f : F} (h : Vd ny no f) (a : ny ≤ ny') (b : no ≤ no') : Vd ny' no' f := by
  cases f with
  | «at» i =>
    have h : if i < 0 then (-i - 1).toNat < ny else i.toNat < no := h
    show if i < 0 then (-i - 1).toNat < ny' else i.toNat < no'
    split at h
    · rename_i c; rw [if_pos c]; omega
    · rename_i c; rw [if_neg c]; omega
  | _ => trivial
theorem Old.mono {no no' : Nat} {f : F} (h : Old no f) (b : no ≤ no') : Old no' f := by
  cases f with
  | «at» i => exact ⟨h.1, Nat.lt_of_lt_of_le h.2 b⟩
  | _ => trivial
theorem Old.vd {ny no : Nat} {f : F} (h : Old no f) : Vd ny no f := by
  cases f with
  | «at» i =>
    show if i < 0 then (-i - 1).toNat < ny else i.toNat < no
    rw [if_neg (by have := h.1; omega)]; exact h.2
  | _ => trivial
theorem Vd.old {ny no : Nat} {f : F} (h : Vd ny no f) (y : yng f = false) : Old no f := by
  cases f with
  | «at» i =>
    have c : ¬ i < 0 := by simpa [yng] using y
    have h : if i < 0 then (-i - 1).toNat < ny else i.toNat < no := h
    rw [if_neg c] at h
    exact ⟨by omega, h⟩
  | _ => trivial
/-- a value is adjusted -/
inductive Mv (Y : List Ob) (n0 : Nat) : List Ob → List Nat → F → F → List Ob → List Nat → Prop
  | old {O mv f} : yng f = false → Mv Y n0 O mv f f O mv
  | had {O mv} {y j : Nat} : mv.Nodup → mv[j]? = some y → Mv Y n0 O mv (.at (-(y : Int) - 1)) (.at ((n0 + j : Nat) : Int)) O mv
  | new {O mv} {y : Nat} {x} : Y[y]? = some x → y ∉ mv → mv.Nodup → O.length = n0 + mv.length → O.length < 1000 → mv.length < 1000 → Mv Y n0 O mv (.at (-(y : Int) - 1)) (.at ((n0 + mv.length : Nat) : Int)) (O ++ [x]) (mv ++ [y])
inductive Mvs (Y : List Ob) (n0 : Nat) : List Ob → List Nat → List F → List F → List Ob → List Nat → Prop
  | nil {O mv} : Mvs Y n0 O mv [] [] O mv
  | cons {O mv f f' O1 mv1 fs fs' O2 mv2} : Mv Y n0 O mv f f' O1 mv1 → Mvs Y n0 O1 mv1 fs fs' O2 mv2 → Mvs Y n0 O mv (f :: fs) (f' :: fs') O2 mv2
inductive Adj (Y : List Ob) (n0 : Nat) : List Ob → List Nat → Nat → List Ob → List Nat → Prop
  | mk {O mv i o fs' O1 mv1} : O[i]? = some o → Mvs Y n0 O mv o.fs fs' O1 mv1 → fs'.length < 1000 → i < O1.length → Adj Y n0 O mv i (O1.set i { o with fs := fs' }) mv1
inductive Adjs (Y : List Ob) (n0 : Nat) : List Ob → List Nat → List Nat → List Ob → List Nat → Prop
  | nil {O mv} : Adjs Y n0 O mv [] O mv
  | cons {O mv i O1 mv1 is O2 mv2} : Adj Y n0 O mv i O1 mv1 → Adjs Y n0 O1 mv1 is O2 mv2 → Adjs Y n0 O mv (i :: is) O2 mv2
/-- the turns left, the place -/
inductive Scn (Y : List Ob) (n0 : Nat) : Nat → List Ob → List Nat → Nat → List Ob → List Nat → Prop
  | nil {O mv} : Scn Y n0 0 O mv O.length O mv
  | cons {k O mv i O1 mv1 O2 mv2} : i < O.length → Adj Y n0 O mv i O1 mv1 → Scn Y n0 k O1 mv1 (i + 1) O2 mv2 → Scn Y n0 (k + 1) O mv i O2 mv2
structure Min (Y O : List Ob) (R : List Int) (fs fs' : List F) (O' : List Ob) : Prop where
  ex : ∃ O1 mv1 is O2 mv2 mv3 k, Mvs Y O.length O [] fs fs' O1 mv1 ∧ sortI R = is.map (fun i : Nat => (i : Int)) ∧ Adjs Y O.length O1 mv1 is O2 mv2 ∧ Scn Y O.length k O2 mv2 O.length O' mv3 ∧ k < 3000 ∧ R.length < 64
/-! ### what holds behind -/
theorem nodup_le : ∀ {b a : List Nat}, a.Nodup → (∀ x ∈ a, x ∈ b) → a.length ≤ b.length
  | [], a, _, h => by
    cases a with
    | nil => simp
    | cons x r => exact absurd (h x (by simp)) (by simp)
  | y :: b, a, nd, h => by
    have e : a.length ≤ (a.erase y).length + 1 := by
      by_cases m : y ∈ a
      · rw [List.length_erase_of_mem m]; omega
      · rw [List.erase_of_not_mem m]; omega
    have := nodup_le (b := b) (a := a.erase y) (nd.erase y) fun x hx => by
      have h1 := (nd.mem_erase_iff).mp hx
      rcases List.mem_cons.mp (h x h1.2) with e | e
      · exact absurd e h1.1
      · exact e
    simp; omega
/-- the state of a collection: D tells what was adjusted -/
structure MvI (Y : List Ob) (n0 : Nat) (O : List Ob) (mv : List Nat) (D : Nat → Prop) : Prop where
  nd : mv.Nodup
  lt : ∀ y ∈ mv, y < Y.length
  len : O.length = n0 + mv.length
  fs : ∀ (i : Nat) o, O[i]? = some o → (∀ f ∈ o.fs, Vd Y.length O.length f) ∧ o.fs.length ≤ 4
  dn : ∀ (i : Nat) o, O[i]? = some o → D i → ∀ f ∈ o.fs, Old O.length f
section
variable {Y O O' : List Ob} {n0 : Nat} {mv mv' : List Nat} {D : Nat → Prop}
theorem MvI.small (M : MvI Y n0 O mv D) : mv.length ≤ Y.length := by
  have := nodup_le (b := List.range Y.length) M.nd fun x hx => List.mem_range.mpr (M.lt x hx)
  rwa [List.length_range] at this
theorem mv_ex (hy : ∀ o ∈ Y, (∀ f ∈ o.fs, Vd Y.length n0 f) ∧ o.fs.length ≤ 4) (l : n0 + Y.length ≤ 100) (M : MvI Y n0 O mv D) (hD : ∀ i, D i → i < O.length) {f : F} (v : Vd Y.length O.length f) :
    ∃ f' O' mv', Mv Y n0 O mv f f' O' mv' ∧ MvI Y n0 O' mv' D ∧ O.length ≤ O'.length ∧ Old O'.length f' := by
  have sm := M.small
  have len := M.len
  cases hf : yng f with
  | false => exact ⟨f, O, mv, .old hf, M, Nat.le_refl _, v.old hf⟩
  | true =>
    cases f with
    | «at» a =>
      have c : a < 0 := by simpa [yng] using hf
      obtain ⟨y, rfl⟩ : ∃ y : Nat, a = -(y : Int) - 1 := ⟨(-a - 1).toNat, by omega⟩
      have ly : y < Y.length := by
        have v : if (-(y : Int) - 1) < 0 then (-(-(y : Int) - 1) - 1).toNat < Y.length else (-(y : Int) - 1).toNat < O.length := v
        rw [if_pos c] at v
        omega
      by_cases hm : y ∈ mv
      · obtain ⟨j, hj, ej⟩ := List.getElem_of_mem hm
        exact ⟨_, O, mv, .had M.nd (by rw [List.getElem?_eq_getElem hj, ej]), M, Nat.le_refl _, ⟨by omega, by omega⟩⟩
      · have ex : Y[y]? = some Y[y] := List.getElem?_eq_getElem ly
        have hx := hy Y[y] (List.getElem_mem ly)
        have cnt : mv.length < Y.length := by
          have := nodup_le (a := y :: mv) (b := List.range Y.length) (List.nodup_cons.mpr ⟨hm, M.nd⟩) fun x hx => by
            rcases List.mem_cons.mp hx with rfl | hx
            · exact List.mem_range.mpr ly
            · exact List.mem_range.mpr (M.lt x hx)
          simp at this; omega
        refine ⟨_, O ++ [Y[y]], mv ++ [y], .new ex hm M.nd M.len (by omega) (by omega), ⟨?_, ?_, ?_, ?_, ?_⟩, by simp, ⟨by omega, by simp; omega⟩⟩
        · rw [List.nodup_append]
          exact ⟨M.nd, by simp, fun a ha b hb => by rintro rfl; simp at hb; subst hb; exact hm ha⟩
        · intro z hz
          rcases List.mem_append.mp hz with hz | hz
          · exact M.lt z hz
          · simp at hz; subst hz; exact ly
        · simp; omega
        · intro i o e
          rcases Nat.lt_or_ge i O.length with c | c
          · rw [List.getElem?_append_left c] at e
            exact ⟨fun f hf => ((M.fs i o e).1 f hf).mono (Nat.le_refl _) (by simp), (M.fs i o e).2⟩
          · rw [List.getElem?_append_right c] at e
            have : i - O.length = 0 := by
              have := (List.getElem?_eq_some_iff.mp e).1
              simpa using this
            rw [this] at e
            simp at e
            subst e
            exact ⟨fun f hf => (hx.1 f hf).mono (Nat.le_refl _) (by simp; omega), hx.2⟩
        · intro i o e d
          have c := hD i d
          rw [List.getElem?_append_left c] at e
          exact fun f hf => (M.dn i o e d f hf).mono (by simp)
    | _ => simp [yng] at hf
theorem mvs_ex (hy : ∀ o ∈ Y, (∀ f ∈ o.fs, Vd Y.length n0 f) ∧ o.fs.length ≤ 4) (l : n0 + Y.length ≤ 100) : ∀ {fs : List F} {O : List Ob} {mv : List Nat}, MvI Y n0 O mv D → (∀ i, D i → i < O.length) → (∀ f ∈ fs, Vd Y.length O.length f) →
    ∃ fs' O' mv', Mvs Y n0 O mv fs fs' O' mv' ∧ MvI Y n0 O' mv' D ∧ O.length ≤ O'.length ∧ (∀ f ∈ fs', Old O'.length f) ∧ fs'.length = fs.length ∧ ∀ (i : Nat) o, O[i]? = some o → O'[i]? = some o
  | [], O, mv, M, _, _ => ⟨[], O, mv, .nil, M, Nat.le_refl _, by simp, rfl, fun _ _ e => e⟩
  | f :: fs, O, mv, M, hD, v => by
    obtain ⟨f', O1, mv1, d1, M1, l1, o1⟩ := mv_ex hy l M hD (v f (by simp))
    have keep : ∀ (i : Nat) o, O[i]? = some o → O1[i]? = some o := by
      intro i o e
      cases d1 with
      | old _ => exact e
      | had _ _ => exact e
      | new _ _ _ _ _ _ => rw [List.getElem?_append_left (List.getElem?_eq_some_iff.mp e).1]; exact e
    obtain ⟨fs', O2, mv2, d2, M2, l2, o2, n2, k2⟩ := mvs_ex hy l M1 (fun i d => Nat.lt_of_lt_of_le (hD i d) l1) (fun g (hg : g ∈ fs) => (v g (by simp [hg])).mono (Nat.le_refl _) l1)
    refine ⟨f' :: fs', O2, mv2, .cons d1 d2, M2, Nat.le_trans l1 l2, fun g hg => ?_, by simp [n2], fun i o e => k2 i o (keep i o e)⟩
    rcases List.mem_cons.mp hg with rfl | hg
    · exact o1.mono l2
    · exact o2 g hg
theorem adj_ex (hy : ∀ o ∈ Y, (∀ f ∈ o.fs, Vd Y.length n0 f) ∧ o.fs.length ≤ 4) (l : n0 + Y.length ≤ 100) (M : MvI Y n0 O mv D) (hD : ∀ i, D i → i < O.length) {i : Nat} (hi : i < O.length) :
    ∃ O' mv', Adj Y n0 O mv i O' mv' ∧ MvI Y n0 O' mv' (fun j => D j ∨ j = i) ∧ O.length ≤ O'.length := by
  have ei : O[i]? = some O[i] := List.getElem?_eq_getElem hi
  obtain ⟨fs', O1, mv1, d, M1, l1, o1, n1, k1⟩ := mvs_ex hy l M hD (M.fs i _ ei).1
  have i1 : i < O1.length := Nat.lt_of_lt_of_le hi l1
  have f4 := (M.fs i _ ei).2
  refine ⟨_, mv1, .mk ei d (by omega) i1, ⟨M1.nd, M1.lt, by rw [List.length_set]; exact M1.len, fun j o e => ?_, fun j o e dj => ?_⟩, by simpa using l1⟩
  · rw [List.length_set]
    by_cases c : i = j
    · subst c
      rw [List.getElem?_set_self i1] at e
      cases e
      exact ⟨fun f hf => (o1 f hf).vd, by show fs'.length ≤ 4; omega⟩
    · rw [List.getElem?_set_ne c] at e
      exact M1.fs j o e
  · rw [List.length_set]
    by_cases c : i = j
    · subst c
      rw [List.getElem?_set_self i1] at e
      cases e
      exact o1
    · rw [List.getElem?_set_ne c] at e
      rcases dj with dj | dj
      · exact M1.dn j o e dj
      · exact absurd dj.symm c
theorem adjs_ex (hy : ∀ o ∈ Y, (∀ f ∈ o.fs, Vd Y.length n0 f) ∧ o.fs.length ≤ 4) (l : n0 + Y.length ≤ 100) : ∀ {is : List Nat} {O : List Ob} {mv : List Nat} {D : Nat → Prop}, MvI Y n0 O mv D → (∀ i, D i → i < O.length) → (∀ i ∈ is, i < O.length) →
    ∃ O' mv', Adjs Y n0 O mv is O' mv' ∧ MvI Y n0 O' mv' (fun j => D j ∨ j ∈ is) ∧ O.length ≤ O'.length
  | [], O, mv, D, M, _, _ => ⟨O, mv, .nil, ⟨M.nd, M.lt, M.len, M.fs, fun i o e d => M.dn i o e (by simpa using d)⟩, Nat.le_refl _⟩
  | i :: is, O, mv, D, M, hD, hi => by
    obtain ⟨O1, mv1, d1, M1, l1⟩ := adj_ex hy l M hD (hi i (by simp))
    obtain ⟨O2, mv2, d2, M2, l2⟩ := adjs_ex hy l (is := is) M1 (fun j d => by
      rcases d with d | rfl
      · exact Nat.lt_of_lt_of_le (hD j d) l1
      · exact Nat.lt_of_lt_of_le (hi j (by simp)) l1) fun j hj => Nat.lt_of_lt_of_le (hi j (by simp [hj])) l1
    refine ⟨O2, mv2, .cons d1 d2, ⟨M2.nd, M2.lt, M2.len, M2.fs, fun j o e d => M2.dn j o e ?_⟩, Nat.le_trans l1 l2⟩
    rcases d with d | d
    · exact .inl (.inl d)
    · rcases List.mem_cons.mp d with rfl | d
      · exact .inl (.inr rfl)
      · exact .inr d
theorem scn_ex (hy : ∀ o ∈ Y, (∀ f ∈ o.fs, Vd Y.length n0 f) ∧ o.fs.length ≤ 4) (l : n0 + Y.length ≤ 100) : ∀ (n : Nat) {i : Nat} {O : List Ob} {mv : List Nat}, n0 + Y.length - i = n → MvI Y n0 O mv (fun j => j < i) → i ≤ O.length →
    ∃ k O' mv', Scn Y n0 k O mv i O' mv' ∧ MvI Y n0 O' mv' (fun j => j < O'.length) ∧ O.length ≤ O'.length ∧ k ≤ n
  | n, i, O, mv, hn, M, hi => by
    by_cases c : i = O.length
    · subst c
      exact ⟨0, O, mv, .nil, M, Nat.le_refl _, Nat.zero_le _⟩
    · have sm := M.small
      have len := M.len
      cases n with
      | zero => omega
      | succ n =>
        obtain ⟨O1, mv1, d1, M1, l1⟩ := adj_ex hy l M (fun j d => by show j < O.length; have : j < i := d; omega) (i := i) (by omega)
        obtain ⟨k, O2, mv2, d2, M2, l2, k2⟩ := scn_ex hy l n (i := i + 1) (by omega) ⟨M1.nd, M1.lt, M1.len, M1.fs, fun j o e d => M1.dn j o e (by have : j < i + 1 := d; show j < i ∨ j = i; omega)⟩ (by omega)
        exact ⟨k + 1, O2, mv2, .cons (by omega) d1 d2, M2, Nat.le_trans l1 l2, by omega⟩
end
/-- the heap's state -/
structure VI (Y O : List Ob) (R : List Int) : Prop where
  y : ∀ o ∈ Y, (∀ f ∈ o.fs, Vd Y.length O.length f) ∧ o.fs.length ≤ 4
  o : ∀ o ∈ O, (∀ f ∈ o.fs, Vd Y.length O.length f) ∧ o.fs.length ≤ 4
  r : ∀ (i : Nat) o, O[i]? = some o → (∃ f ∈ o.fs, yng f = true) → (i : Int) ∈ R
  rb : ∀ a ∈ R, 0 ≤ a ∧ a < O.length
  sz : Y.length + O.length ≤ 64 ∧ R.length < 64
theorem insI_mem {x a : Int} : ∀ {l : List Int}, a ∈ insI x l ↔ a = x ∨ a ∈ l
  | [] => by simp [insI]
  | y :: r => by
    unfold insI
    split
    · simp
    · simp [insI_mem (l := r)]
      constructor
      · rintro (h | h | h) <;> simp [h]
      · rintro (h | h | h) <;> simp [h]
theorem sortI_mem {a : Int} : ∀ {l : List Int}, a ∈ sortI l ↔ a ∈ l
  | [] => by simp [sortI]
  | x :: r => by
    show a ∈ insI x (sortI r) ↔ _
    rw [insI_mem, sortI_mem (l := r)]; simp
theorem nats_of : ∀ {l : List Int}, (∀ a ∈ l, 0 ≤ a) → l = (l.map Int.toNat).map (fun i : Nat => (i : Int))
  | [], _ => rfl
  | x :: r, h => by
    have e := nats_of (l := r) fun a ha => h a (by simp [ha])
    have hx := h x (by simp)
    simp only [List.map_cons]
    rw [← e, Int.toNat_of_nonneg hx]
/-- a minor collection can be done; behind it all is old -/
theorem VI.minor {Y O : List Ob} {R : List Int} (I : VI Y O R) {fs : List F} (v : ∀ f ∈ fs, Vd Y.length O.length f) :
    ∃ fs' O', Min Y O R fs fs' O' ∧ (∀ f ∈ fs', Old O'.length f) ∧ fs'.length = fs.length ∧ (∀ o ∈ O', (∀ f ∈ o.fs, Old O'.length f) ∧ o.fs.length ≤ 4) ∧ O'.length ≤ Y.length + O.length := by
  have hy := I.y
  have l : O.length + Y.length ≤ 100 := by have := I.sz; omega
  have M0 : MvI Y O.length O [] (fun i => i < O.length ∧ (i : Int) ∉ R) := ⟨by simp, by simp, by simp, fun i o e => I.o o (List.mem_of_getElem? e), fun i o e d f hf => ((I.o o (List.mem_of_getElem? e)).1 f hf).old (by
    cases h : yng f with
    | false => rfl
    | true => exact absurd (I.r i o e ⟨f, hf, h⟩) d.2)⟩
  obtain ⟨fs', O1, mv1, d1, M1, l1, o1, n1, _⟩ := mvs_ex hy l M0 (fun i d => d.1) v
  have nn : ∀ a ∈ sortI R, 0 ≤ a := fun a ha => (I.rb a (sortI_mem.mp ha)).1
  obtain ⟨O2, mv2, d2, M2, l2⟩ := adjs_ex hy l (is := (sortI R).map Int.toNat) M1 (fun i d => Nat.lt_of_lt_of_le d.1 l1) (fun i hi => by
    obtain ⟨a, ha, rfl⟩ := List.mem_map.mp hi
    have := I.rb a (sortI_mem.mp ha)
    omega)
  have M2' : MvI Y O.length O2 mv2 (fun j => j < O.length) := ⟨M2.nd, M2.lt, M2.len, M2.fs, fun j o e d => M2.dn j o e (by
    by_cases c : (j : Int) ∈ R
    · exact .inr (List.mem_map.mpr ⟨j, sortI_mem.mpr c, by simp⟩)
    · exact .inl ⟨d, c⟩)⟩
  obtain ⟨k, O3, mv3, d3, M3, l3, k3⟩ := scn_ex hy l _ (i := O.length) rfl M2' (by omega)
  have sm := M3.small
  have len := M3.len
  refine ⟨fs', O3, ⟨O1, mv1, _, O2, mv2, mv3, k, d1, nats_of nn, d2, d3, by omega, I.sz.2⟩, fun f hf => (o1 f hf).mono (Nat.le_trans l2 l3), n1, fun o ho => ?_, by omega⟩
  obtain ⟨i, hi, rfl⟩ := List.getElem_of_mem ho
  have e : O3[i]? = some O3[i] := List.getElem?_eq_getElem hi
  exact ⟨M3.dn i _ e hi, (M3.fs i _ e).2⟩
end Gu
end

section
set_option linter.all false
set_option Elab.async false
namespace Gu
open PySem L2
/-! k56: what can be reached; a major collection; a store; a new object -/
def ats (fs : List F) : List Int := fs.filterMap fun f => match f with | .at a => some a | _ => none
def obAt (Y O : List Ob) (a : Int) : Option Ob := if a < 0 then Y[(-a - 1).toNat]? else O[a.toNat]?
/-- turns, found, left, the result -/
inductive Rch (Y O : List Ob) : Nat → List Int → List Int → List Int → Prop
  | done {found} : Rch Y O 0 found [] found
  | had {n found left a r} : a ∈ found → Rch Y O n found left r → Rch Y O (n + 1) found (left ++ [a]) r
  | new {n found left a o r} : a ∉ found → obAt Y O a = some o → Rch Y O n (found ++ [a]) (left ++ ats o.fs) r → Rch Y O (n + 1) found (left ++ [a]) r
@[simp] theorem ats_nil : ats [] = [] := rfl
@[simp] theorem ats_at {a : Int} {r : List F} : ats (.at a :: r) = a :: ats r := rfl
@[simp] theorem ats_int {a : Int} {r : List F} : ats (.int a :: r) = ats r := rfl
@[simp] theorem ats_tag {a : Int} {r : List F} : ats (.tag a :: r) = ats r := rfl
theorem ats_app {a b : List F} : ats (a ++ b) = ats a ++ ats b := by simp [ats]
theorem ats_mem {a : Int} : ∀ {fs : List F}, a ∈ ats fs ↔ F.at a ∈ fs
  | [] => by simp
  | f :: fs => by cases f <;> simp [ats_mem (fs := fs)]
theorem ats_len : ∀ {fs : List F}, (ats fs).length ≤ fs.length
  | [] => Nat.le_refl _
  | f :: fs => by have := ats_len (fs := fs); cases f <;> simp <;> omega
/-- all addresses that there are -/
def adrs (ny no : Nat) : List Int := (List.range ny).map (fun i : Nat => -(i : Int) - 1) ++ (List.range no).map fun i : Nat => (i : Int)
theorem adrs_mem {ny no : Nat} {a : Int} (v : Vd ny no (.at a)) : a ∈ adrs ny no := by
  have v : if a < 0 then (-a - 1).toNat < ny else a.toNat < no := v
  unfold adrs
  rw [List.mem_append]
  split at v
  · exact .inl (List.mem_map.mpr ⟨(-a - 1).toNat, List.mem_range.mpr v, by omega⟩)
  · exact .inr (List.mem_map.mpr ⟨a.toNat, List.mem_range.mpr v, by omega⟩)
theorem adrs_len {ny no : Nat} : (adrs ny no).length = ny + no := by simp [adrs]
theorem nodup_leI : ∀ {b a : List Int}, a.Nodup → (∀ x ∈ a, x ∈ b) → a.length ≤ b.length
  | [], a, _, h => by
    cases a with
    | nil => simp
    | cons x r => exact absurd (h x (by simp)) (by simp)
  | y :: b, a, nd, h => by
    have e : a.length ≤ (a.erase y).length + 1 := by
      by_cases m : y ∈ a
      · rw [List.length_erase_of_mem m]; omega
      · rw [List.erase_of_not_mem m]; omega
    have := nodup_leI (b := b) (a := a.erase y) (nd.erase y) fun x hx => by
      have h1 := (nd.mem_erase_iff).mp hx
      rcases List.mem_cons.mp (h x h1.2) with e | e
      · exact absurd e h1.1
      · exact e
    simp; omega
theorem obAt_vd {Y O : List Ob} {a : Int} (v : Vd Y.length O.length (.at a)) : ∃ o, obAt Y O a = some o := by
  have v : if a < 0 then (-a - 1).toNat < Y.length else a.toNat < O.length := v
  unfold obAt
  split at v
  · rename_i c; rw [if_pos c]; exact ⟨_, List.getElem?_eq_getElem v⟩
  · rename_i c; rw [if_neg c]; exact ⟨_, List.getElem?_eq_getElem v⟩
theorem obAt_mem {Y O : List Ob} {a : Int} {o : Ob} (e : obAt Y O a = some o) : o ∈ Y ∨ o ∈ O := by
  unfold obAt at e
  split at e
  · exact .inl (List.mem_of_getElem? e)
  · exact .inr (List.mem_of_getElem? e)
/-- whatever is closed under `Vd` can be walked; a bound of the turns -/
theorem rch_ex {Y O : List Ob} (hf : ∀ o, o ∈ Y ∨ o ∈ O → (∀ f ∈ o.fs, Vd Y.length O.length f) ∧ o.fs.length ≤ 4) : ∀ (m : Nat) (found left : List Int), (Y.length + O.length - found.length) * 5 + left.length = m → found.Nodup → (∀ a ∈ found, Vd Y.length O.length (.at a)) → (∀ a ∈ left, Vd Y.length O.length (.at a)) →
    ∃ n r, Rch Y O n found left r ∧ n ≤ m ∧ r.Nodup ∧ (∀ a ∈ r, Vd Y.length O.length (.at a)) := by
  intro m
  induction m using Nat.strongRecOn with
  | _ m ih =>
    intro found left hm nd vf vl
    rcases List.eq_nil_or_concat left with rfl | ⟨l, a, rfl⟩
    · exact ⟨0, found, .done, Nat.zero_le _, nd, vf⟩
    · have e1 : (l.concat a) = l ++ [a] := List.concat_eq_append
      rw [e1] at hm vl ⊢
      have hm : (Y.length + O.length - found.length) * 5 + (l.length + 1) = m := by simpa using hm
      by_cases c : a ∈ found
      · obtain ⟨n, r, d, k, q⟩ := ih (m - 1) (by omega) found l (by omega) nd vf fun b hb => vl b (by simp [hb])
        exact ⟨n + 1, r, .had c d, by omega, q⟩
      · have va := vl a (by simp)
        obtain ⟨o, eo⟩ := obAt_vd va
        have ho := hf o (obAt_mem eo)
        have nd2 : (found ++ [a]).Nodup := by
          rw [List.nodup_append]
          exact ⟨nd, by simp, fun x hx y hy => by rintro rfl; simp at hy; subst hy; exact c hx⟩
        have vf2 : ∀ b ∈ found ++ [a], Vd Y.length O.length (.at b) := fun b hb => by
          rcases List.mem_append.mp hb with hb | hb
          · exact vf b hb
          · simp at hb; subst hb; exact va
        have cnt := nodup_leI (b := adrs Y.length O.length) nd2 fun x hx => adrs_mem (vf2 x hx)
        rw [adrs_len] at cnt
        simp at cnt
        have la := ats_len (fs := o.fs)
        obtain ⟨n, r, d, k, q⟩ := ih ((Y.length + O.length - (found ++ [a]).length) * 5 + (l ++ ats o.fs).length) (by simp; omega) (found ++ [a]) (l ++ ats o.fs) rfl nd2 vf2 fun b hb => by
          rcases List.mem_append.mp hb with hb | hb
          · exact vl b (by simp [hb])
          · exact ho.1 _ (ats_mem.mp hb)
        refine ⟨n + 1, r, .new c eo d, ?_, q⟩
        simp at k
        omega
theorem Rch.sub {Y O : List Ob} {n : Nat} {found left r : List Int} (d : Rch Y O n found left r) : (∀ a ∈ found, a ∈ r) ∧ ∀ a ∈ left, a ∈ r := by
  induction d with
  | done => exact ⟨fun _ h => h, by simp⟩
  | had c d ih =>
    refine ⟨ih.1, fun a ha => ?_⟩
    rcases List.mem_append.mp ha with ha | ha
    · exact ih.2 a ha
    · simp at ha; subst ha; exact ih.1 _ c
  | new c eo d ih =>
    refine ⟨fun a ha => ih.1 a (by simp [ha]), fun a ha => ?_⟩
    rcases List.mem_append.mp ha with ha | ha
    · exact ih.2 a (by simp [ha])
    · simp at ha; subst ha; exact ih.1 _ (by simp)
/-- what is found leads to what is found -/
theorem Rch.closed {Y O : List Ob} {n : Nat} {found left r : List Int} (d : Rch Y O n found left r) (h : ∀ a ∈ found, ∀ o, obAt Y O a = some o → ∀ b ∈ ats o.fs, b ∈ found ∨ b ∈ left) : ∀ a ∈ r, ∀ o, obAt Y O a = some o → ∀ b ∈ ats o.fs, b ∈ r := by
  induction d with
  | done => intro a ha o e b hb; simpa using h a ha o e b hb
  | had c d ih =>
    refine ih fun a ha o e b hb => ?_
    rcases h a ha o e b hb with q | q
    · exact .inl q
    · rcases List.mem_append.mp q with q | q
      · exact .inr q
      · simp at q; subst q; exact .inl c
  | @new n found left a o r c eo d ih =>
    refine ih fun x hx o' e b hb => ?_
    rcases List.mem_append.mp hx with hx | hx
    · rcases h x hx o' e b hb with q | q
      · exact .inl (by simp [q])
      · rcases List.mem_append.mp q with q | q
        · exact .inr (by simp [q])
        · simp at q; subst q; exact .inl (by simp)
    · simp at hx; subst hx
      rw [eo] at e; cases e
      exact .inr (by simp [hb])
/-- what the program does: other values are skipped -/
inductive Rcp (O : List Ob) : Nat → List Int → List F → List Int → Prop
  | done {found} : Rcp O 0 found [] found
  | skip {n found left f r} : isAt f = false → Rcp O n found left r → Rcp O (n + 1) found (left ++ [f]) r
  | had {n found left a r} : a ∈ found → Rcp O n found left r → Rcp O (n + 1) found (left ++ [.at a]) r
  | new {n found left a o r} : a ∉ found → 0 ≤ a → O[a.toNat]? = some o → found.length < 1000 → left.length < 100000 → o.fs.length < 1000 → Rcp O n (found ++ [a]) (left ++ o.fs) r → Rcp O (n + 1) found (left ++ [.at a]) r
theorem ats_snoc {fs : List F} {l : List Int} {a : Int} (e : ats fs = l ++ [a]) : ∃ fs1 t, fs = fs1 ++ [.at a] ++ t ∧ ats fs1 = l ∧ ∀ f ∈ t, isAt f = false := by
  rcases List.eq_nil_or_concat fs with rfl | ⟨g, f, rfl⟩
  · simp at e
  · have e1 : (g.concat f) = g ++ [f] := List.concat_eq_append
    rw [e1, ats_app] at e
    cases f with
    | «at» b =>
      have e : ats g ++ [b] = l ++ [a] := e
      obtain ⟨h1, h2⟩ := List.append_inj' e rfl
      cases h2
      exact ⟨g, [], by rw [e1]; simp, h1, by simp⟩
    | int i =>
      have e : ats g ++ [] = l ++ [a] := e
      rw [List.append_nil] at e
      obtain ⟨fs1, t, h1, h2, h3⟩ := ats_snoc e
      exact ⟨fs1, t ++ [.int i], by rw [e1, h1]; simp, h2, fun f hf => by rcases List.mem_append.mp hf with q | q; exact h3 f q; simp at q; subst q; rfl⟩
    | tag i =>
      have e : ats g ++ [] = l ++ [a] := e
      rw [List.append_nil] at e
      obtain ⟨fs1, t, h1, h2, h3⟩ := ats_snoc e
      exact ⟨fs1, t ++ [.tag i], by rw [e1, h1]; simp, h2, fun f hf => by rcases List.mem_append.mp hf with q | q; exact h3 f q; simp at q; subst q; rfl⟩
termination_by fs.length
decreasing_by all_goals (simp_all; try omega)
theorem ats_none : ∀ {fs : List F}, ats fs = [] → ∀ f ∈ fs, isAt f = false
  | [], _ => by simp
  | .at a :: fs, e => by simp at e
  | .int a :: fs, e => by
    intro f hf
    rcases List.mem_cons.mp hf with rfl | hf
    · rfl
    · exact ats_none (fs := fs) (by simpa using e) f hf
  | .tag a :: fs, e => by
    intro f hf
    rcases List.mem_cons.mp hf with rfl | hf
    · rfl
    · exact ats_none (fs := fs) (by simpa using e) f hf
theorem Rcp.skips {O : List Ob} {found : List Int} {left : List F} {r : List Int} {n : Nat} (d : Rcp O n found left r) : ∀ {t : List F}, (∀ f ∈ t, isAt f = false) → ∃ m, Rcp O m found (left ++ t) r ∧ m ≤ n + t.length := by
  intro t
  induction h : t.length generalizing t with
  | zero => intro _; rw [List.eq_nil_of_length_eq_zero h]; exact ⟨n, by simpa using d, by omega⟩
  | succ k ih =>
    intro ht
    rcases List.eq_nil_or_concat t with rfl | ⟨g, f, rfl⟩
    · simp at h
    · have e1 : (g.concat f) = g ++ [f] := List.concat_eq_append
      rw [e1] at h ht ⊢
      obtain ⟨m, d2, l⟩ := ih (t := g) (by simpa using h) fun x hx => ht x (by simp [hx])
      exact ⟨m + 1, by rw [← List.append_assoc]; exact .skip (ht f (by simp)) d2, by omega⟩
theorem Rcp.of {O : List Ob} (hO : ∀ o ∈ O, (∀ f ∈ o.fs, Old O.length f) ∧ o.fs.length ≤ 4) : ∀ {n : Nat} {found : List Int} {left : List Int} {r : List Int}, Rch [] O n found left r → ∀ {fs : List F}, ats fs = left → (∀ f ∈ fs, Old O.length f) → fs.length + n * 10 ≤ 10000 → found.length + n ≤ 900 → ∃ m, Rcp O m found fs r ∧ m ≤ fs.length + 4 * n := by
  intro n found left r d
  induction d with
  | done =>
    intro fs e _ _ _
    obtain ⟨m, q, l⟩ := (Rcp.done (O := O)).skips (ats_none e)
    exact ⟨m, q, by omega⟩
  | @had n found left a r c d ih =>
    intro fs e v b b2
    obtain ⟨fs1, t, rfl, e2, e3⟩ := ats_snoc e
    obtain ⟨m, q, lm⟩ := ih e2 (fun f hf => v f (by simp [hf])) (by simp at b; omega) (by omega)
    obtain ⟨m2, q2, l2⟩ := (Rcp.had c q).skips e3
    exact ⟨m2, q2, by simp; omega⟩
  | @new n found left a o r c eo d ih =>
    intro fs e v b b2
    obtain ⟨fs1, t, rfl, e2, e3⟩ := ats_snoc e
    have va : Old O.length (.at a) := v _ (by simp)
    have eo2 : O[a.toNat]? = some o := by
      unfold obAt at eo
      rwa [if_neg (by have := va.1; omega)] at eo
    have ho := hO o (List.mem_of_getElem? eo2)
    obtain ⟨m, q, lm⟩ := ih (fs := fs1 ++ o.fs) (by rw [ats_app, e2]) (fun f hf => by
      rcases List.mem_append.mp hf with hf | hf
      · exact v f (by simp [hf])
      · exact ho.1 f hf) (by simp at b ⊢; omega) (by simp; omega)
    obtain ⟨m2, q2, l2⟩ := (Rcp.new c va.1 eo2 (by omega) (by simp at b; omega) (by omega) q).skips e3
    exact ⟨m2, q2, by simp at lm ⊢; omega⟩
/-! ### a major collection -/
def plc (kept : List Int) : F → F
  | .at a => .at (kept.idxOf a : Nat)
  | f => f
/-- what is placed stands in kept -/
def In1 (kept : List Int) : F → Prop
  | .at a => a ∈ kept
  | _ => True
inductive Kpt (O : List Ob) (kept : List Int) : List Int → List Ob → Prop
  | nil : Kpt O kept [] []
  | cons {a as o os} : 0 ≤ a → O[a.toNat]? = some o → (∀ f ∈ o.fs, In1 kept f) → o.fs.length < 1000 → Kpt O kept as os → Kpt O kept (a :: as) ({ o with fs := o.fs.map (plc kept) } :: os)
structure Maj (Y O : List Ob) (R : List Int) (fs fs' : List F) (O' : List Ob) : Prop where
  ex : ∃ fs1 O1 n m r, Min Y O R fs fs1 O1 ∧ Rch [] O1 n [] (ats fs1) r ∧ n < 3000 ∧ Rcp O1 m [] fs1 r ∧ m < 1000000 ∧ r.length < 64 ∧ r.Nodup ∧ Kpt O1 (sortI r) (sortI r) O' ∧ (∀ f ∈ fs1, In1 (sortI r) f) ∧ fs' = fs1.map (plc (sortI r)) ∧ fs'.length < 1000 ∧ ∀ o ∈ O1, o.fs.length ≤ 4
theorem insI_len {x : Int} : ∀ {l : List Int}, (insI x l).length = l.length + 1
  | [] => rfl
  | y :: r => by
    unfold insI
    split
    · rfl
    · simp [insI_len (l := r)]
theorem sortI_len : ∀ {l : List Int}, (sortI l).length = l.length
  | [] => rfl
  | x :: r => by
    show (insI x (sortI r)).length = _
    rw [insI_len, sortI_len (l := r)]; rfl
theorem kpt_ex {O : List Ob} {kept : List Int} (h : ∀ a ∈ kept, 0 ≤ a ∧ ∃ o, O[a.toNat]? = some o ∧ (∀ f ∈ o.fs, In1 kept f) ∧ o.fs.length ≤ 4) : ∀ {as : List Int}, (∀ a ∈ as, a ∈ kept) → ∃ os, Kpt O kept as os ∧ os.length = as.length ∧ ∀ o ∈ os, (∀ f ∈ o.fs, Old kept.length f) ∧ o.fs.length ≤ 4
  | [], _ => ⟨[], .nil, rfl, by simp⟩
  | a :: as, hs => by
    obtain ⟨os, d, l, v⟩ := kpt_ex h (as := as) fun b hb => hs b (by simp [hb])
    obtain ⟨a0, o, eo, i1, l4⟩ := h a (hs a (by simp))
    refine ⟨_, .cons a0 eo i1 (by omega) d, by simp [l], fun o' ho => ?_⟩
    rcases List.mem_cons.mp ho with rfl | ho
    · refine ⟨fun f hf => ?_, by simpa using l4⟩
      obtain ⟨g, hg, rfl⟩ := List.mem_map.mp hf
      have := i1 g hg
      cases g with
      | «at» b =>
        have hb : b ∈ kept := this
        exact ⟨by omega, by simpa using List.idxOf_lt_length_of_mem hb⟩
      | _ => trivial
    · exact v o' ho
theorem VI.nil {Y O : List Ob} {R : List Int} (I : VI Y O R) {O' : List Ob} (h : ∀ o ∈ O', (∀ f ∈ o.fs, Old O'.length f) ∧ o.fs.length ≤ 4) (l : O'.length ≤ Y.length + O.length) : VI [] O' [] :=
  ⟨by simp, fun o ho => ⟨fun f hf => ((h o ho).1 f hf).vd, (h o ho).2⟩, fun i o e ⟨f, hf, y⟩ => by
    have := (h o (List.mem_of_getElem? e)).1 f hf
    cases f with
    | «at» a =>
      have c : a < 0 := by simpa [yng] using y
      have := this.1
      omega
    | _ => simp [yng] at y, by simp, by have := I.sz; simp; omega⟩
theorem VI.major {Y O : List Ob} {R : List Int} (I : VI Y O R) (l63 : Y.length + O.length < 64) {fs : List F} (v : ∀ f ∈ fs, Vd Y.length O.length f) (lf : fs.length ≤ 20) :
    ∃ fs' O', Maj Y O R fs fs' O' ∧ (∀ f ∈ fs', Old O'.length f) ∧ fs'.length = fs.length ∧ (∀ o ∈ O', (∀ f ∈ o.fs, Old O'.length f) ∧ o.fs.length ≤ 4) ∧ O'.length ≤ Y.length + O.length := by
  obtain ⟨fs1, O1, M, o1, n1, v1, l1⟩ := I.minor v
  have hf : ∀ o, o ∈ ([] : List Ob) ∨ o ∈ O1 → (∀ f ∈ o.fs, Vd ([] : List Ob).length O1.length f) ∧ o.fs.length ≤ 4 := fun o ho => by
    rcases ho with ho | ho
    · simp at ho
    · exact ⟨fun f hf => ((v1 o ho).1 f hf).vd, (v1 o ho).2⟩
  have la := ats_len (fs := fs1)
  obtain ⟨n, r, d, ln, nd, vr⟩ := rch_ex (Y := []) hf _ [] (ats fs1) rfl (by simp) (by simp) fun a ha => (o1 _ (ats_mem.mp ha)).vd
  simp at ln
  obtain ⟨m, dp, lm⟩ := Rcp.of v1 d rfl o1 (by omega) (by simp; omega)
  have cl := d.closed (by simp)
  have rl : r.length ≤ O1.length := by
    have := nodup_leI (b := adrs 0 O1.length) nd fun x hx => adrs_mem (vr x hx)
    rw [adrs_len] at this; omega
  have hk : ∀ a ∈ sortI r, 0 ≤ a ∧ ∃ o, O1[a.toNat]? = some o ∧ (∀ f ∈ o.fs, In1 (sortI r) f) ∧ o.fs.length ≤ 4 := fun a ha => by
    have ha := sortI_mem.mp ha
    have va : if a < 0 then (-a - 1).toNat < 0 else a.toNat < O1.length := vr a ha
    split at va
    · omega
    · rename_i c
      obtain ⟨o, eo⟩ : ∃ o, O1[a.toNat]? = some o := ⟨_, List.getElem?_eq_getElem va⟩
      refine ⟨by omega, o, eo, fun f hf => ?_, (v1 o (List.mem_of_getElem? eo)).2⟩
      cases f with
      | «at» b => exact sortI_mem.mpr (cl a ha o (by unfold obAt; rw [if_neg c]; exact eo) b (ats_mem.mpr hf))
      | _ => trivial
  obtain ⟨os, dk, lo, vo⟩ := kpt_ex hk (as := sortI r) fun _ h => h
  have hin : ∀ f ∈ fs1, In1 (sortI r) f := fun f hf => by
    cases f with
    | «at» b => exact sortI_mem.mpr (d.sub.2 b (ats_mem.mpr hf))
    | _ => trivial
  rw [sortI_len] at lo
  refine ⟨_, os, ⟨fs1, O1, n, m, r, M, d, by omega, dp, by omega, by omega, nd, dk, hin, rfl, by simp; omega, fun o ho => (v1 o ho).2⟩, fun f hf => ?_, by simp [n1], fun o ho => ?_, by omega⟩
  · obtain ⟨g, hg, rfl⟩ := List.mem_map.mp hf
    have := hin g hg
    cases g with
    | «at» b =>
      have hb : b ∈ sortI r := this
      have := List.idxOf_lt_length_of_mem hb
      rw [sortI_len] at this
      exact ⟨by omega, by simpa [lo] using this⟩
    | _ => trivial
  · have := vo o ho
    rw [sortI_len, ← lo] at this
    exact this
/-- a new object -/
theorem VI.make {Y O : List Ob} {R : List Int} (I : VI Y O R) {x : Ob} (v : ∀ f ∈ x.fs, Vd Y.length O.length f) (l4 : x.fs.length ≤ 4) (sz : Y.length + O.length < 64) : VI (Y ++ [x]) O R := by
  refine ⟨fun o ho => ?_, fun o ho => ⟨fun f hf => ((I.o o ho).1 f hf).mono (by simp) (Nat.le_refl _), (I.o o ho).2⟩, I.r, I.rb, by simp; have := I.sz; omega⟩
  rcases List.mem_append.mp ho with ho | ho
  · exact ⟨fun f hf => ((I.y o ho).1 f hf).mono (by simp) (Nat.le_refl _), (I.y o ho).2⟩
  · simp at ho; subst ho; exact ⟨fun f hf => (v f hf).mono (by simp) (Nat.le_refl _), l4⟩
def addR (R : List Int) (a : Int) : List Int := if a ∈ R then R else R ++ [a]
/-- what a store leaves -/
def stY (Y : List Ob) (a : Int) (c : F) : List Ob := if a < 0 then (match Y[(-a - 1).toNat]? with | some o => Y.set (-a - 1).toNat { o with fs := [c] } | none => Y) else Y
def stO (O : List Ob) (a : Int) (c : F) : List Ob := if a < 0 then O else (match O[a.toNat]? with | some o => O.set a.toNat { o with fs := [c] } | none => O)
def stR (R : List Int) (a : Int) (c : F) : List Int := if a < 0 then R else if yng c then addR R a else R
theorem stY_len {Y : List Ob} {a : Int} {c : F} : (stY Y a c).length = Y.length := by
  unfold stY
  split
  · split <;> simp
  · rfl
theorem stO_len {Y : List Ob} {a : Int} {c : F} : (stO Y a c).length = Y.length := by
  unfold stO
  split
  · rfl
  · split <;> simp
theorem mem_set {α : Type} {l : List α} {i : Nat} {x y : α} (h : y ∈ l.set i x) : y ∈ l ∨ y = x := List.mem_or_eq_of_mem_set h
theorem stR_len {R : List Int} {a : Int} {c : F} : (stR R a c).length ≤ R.length + 1 := by
  unfold stR addR
  split
  · omega
  · split
    · split <;> simp
    · omega
theorem VI.store {Y O : List Ob} {R : List Int} (I : VI Y O R) {a : Int} {c : F} (va : Vd Y.length O.length (.at a)) (vc : Vd Y.length O.length c) (lr : R.length + 1 < 64) : VI (stY Y a c) (stO O a c) (stR R a c) := by
  refine ⟨fun o ho => ?_, fun o ho => ?_, fun i o e hy => ?_, fun b hb => ?_, ?_⟩
  · rw [stY_len, stO_len]
    unfold stY at ho
    split at ho
    · split at ho
      · rcases mem_set ho with ho | rfl
        · exact I.y o ho
        · exact ⟨fun f hf => by simp at hf; subst hf; exact vc, by simp⟩
      · exact I.y o ho
    · exact I.y o ho
  · rw [stY_len, stO_len]
    unfold stO at ho
    split at ho
    · exact I.o o ho
    · split at ho
      · rcases mem_set ho with ho | rfl
        · exact I.o o ho
        · exact ⟨fun f hf => by simp at hf; subst hf; exact vc, by simp⟩
      · exact I.o o ho
  · unfold stO at e
    unfold stR
    split at e
    · rename_i c0; rw [if_pos c0]; exact I.r i o e hy
    · rename_i c0
      rw [if_neg c0]
      have up : ∀ x ∈ R, x ∈ (if yng c = true then addR R a else R) := fun x hx => by
        split
        · unfold addR; split
          · exact hx
          · simp [hx]
        · exact hx
      split at e
      · by_cases ci : a.toNat = i
        · subst ci
          rw [List.getElem?_set_self (by rename_i eo; exact (List.getElem?_eq_some_iff.mp eo).1)] at e
          cases e
          obtain ⟨f, hf, y⟩ := hy
          simp at hf; subst hf
          rw [if_pos y, Int.toNat_of_nonneg (by omega)]
          unfold addR
          split
          · assumption
          · simp
        · rw [List.getElem?_set_ne ci] at e
          exact up _ (I.r i o e hy)
      · exact up _ (I.r i o e hy)
  · rw [stO_len]
    unfold stR at hb
    split at hb
    · exact I.rb b hb
    · rename_i c0
      split at hb
      · unfold addR at hb
        split at hb
        · exact I.rb b hb
        · rcases List.mem_append.mp hb with hb | hb
          · exact I.rb b hb
          · simp at hb; subst hb
            have va : if b < 0 then (-b - 1).toNat < Y.length else b.toNat < O.length := va
            rw [if_neg c0] at va
            omega
      · exact I.rb b hb
  · rw [stY_len, stO_len]
    have := stR_len (R := R) (a := a) (c := c)
    exact ⟨I.sz.1, by omega⟩
end Gu
end

section
set_option linter.all false
set_option Elab.async false
namespace Gu
open PySem L2
/-! the heap's objects in the small language's heap -/
def FrS (S : List Nat) (h h' : MH) : Prop := h.length ≤ h'.length ∧ ∀ i, i < h.length → i ∉ S → h'[i]? = h[i]?
theorem FrS.refl (S : List Nat) (h : MH) : FrS S h h := ⟨Nat.le_refl _, fun _ _ _ => rfl⟩
theorem FrS.trans {S S1 : List Nat} {h h1 h2 : MH} (a : FrS S h h1) (b : FrS S1 h1 h2) (i : ∀ x ∈ S1, x ∈ S ∨ h.length ≤ x) : FrS S h h2 :=
  ⟨Nat.le_trans a.1 b.1, fun j lj nj => by
    rw [b.2 j (Nat.lt_of_lt_of_le lj a.1) (fun m => by rcases i j m with q | q; exact nj q; omega)]
    exact a.2 j lj nj⟩
theorem FrS.app (S : List Nat) (h : MH) (os : List MO) : FrS S h (h ++ os) := ⟨by simp, fun i l _ => List.getElem?_append_left l⟩
theorem FrS.set {S : List Nat} (h : MH) {n : Nat} (o : MO) (m : n ∈ S) : FrS S h (h.set n o) := ⟨by simp, fun i l ni => List.getElem?_set_ne (by rintro rfl; exact ni m)⟩
theorem FrS.get {S : List Nat} {h h' : MH} {i : Nat} {o : MO} (f : FrS S h h') (g : h[i]? = some o) (n : i ∉ S) : h'[i]? = some o := by
  rw [f.2 i (List.getElem?_eq_some_iff.mp g).1 n]; exact g
theorem FrS.mono {S S' : List Nat} {h h' : MH} (f : FrS S h h') (i : ∀ x ∈ S, x ∈ S') : FrS S' h h' := ⟨f.1, fun j l n => f.2 j l fun m => n (i j m)⟩
theorem get_lt {h : MH} {i : Nat} {o : MO} (g : h[i]? = some o) : i < h.length := (List.getElem?_eq_some_iff.mp g).1
abbrev hfs (room : Int) (y o r : Nat) : List (Str × Val) := [("room", .int room), ("young", .loc y), ("old", .loc o), ("remembered", .loc r)]
@[simp] theorem l_room {room : Int} {y o r : Nat} : List.lookup ("room" : Str) (hfs room y o r) = some (.int room) := by rfl
@[simp] theorem l_young {room : Int} {y o r : Nat} : List.lookup ("young" : Str) (hfs room y o r) = some (.loc y) := by rfl
@[simp] theorem l_old {room : Int} {y o r : Nat} : List.lookup ("old" : Str) (hfs room y o r) = some (.loc o) := by rfl
@[simp] theorem l_rem {room : Int} {y o r : Nat} : List.lookup ("remembered" : Str) (hfs room y o r) = some (.loc r) := by rfl
@[simp] theorem l_1 {room : Int} {y o r : Nat} : List.lookup ("is_full" : Str) (hfs room y o r) = none := by rfl
@[simp] theorem l_2 {room : Int} {y o r : Nat} : List.lookup ("make" : Str) (hfs room y o r) = none := by rfl
@[simp] theorem l_3 {room : Int} {y o r : Nat} : List.lookup ("look" : Str) (hfs room y o r) = none := by rfl
@[simp] theorem l_4 {room : Int} {y o r : Nat} : List.lookup ("store" : Str) (hfs room y o r) = none := by rfl
@[simp] theorem l_5 {room : Int} {y o r : Nat} : List.lookup ("counts" : Str) (hfs room y o r) = none := by rfl
@[simp] theorem l_6 {room : Int} {y o r : Nat} : List.lookup ("minor" : Str) (hfs room y o r) = none := by rfl
@[simp] theorem l_7 {room : Int} {y o r : Nat} : List.lookup ("reached" : Str) (hfs room y o r) = none := by rfl
@[simp] theorem l_8 {room : Int} {y o r : Nat} : List.lookup ("major" : Str) (hfs room y o r) = none := by rfl
@[simp] theorem p_young {room : Int} {y o r z : Nat} : putA ("young" : Str) (.loc z) (hfs room y o r) = hfs room z o r := by rfl
@[simp] theorem p_old {room : Int} {y o r z : Nat} : putA ("old" : Str) (.loc z) (hfs room y o r) = hfs room y z r := by rfl
@[simp] theorem p_rem {room : Int} {y o r z : Nat} : putA ("remembered" : Str) (.loc z) (hfs room y o r) = hfs room y o z := by rfl
def rd (R : List Int) : List Val := R.map fun a => .tup [.int a, .bl true]
theorem rd_get {a : Int} : ∀ {R : List Int}, dGet (rd R) (.int a) = if a ∈ R then some (.bl true) else none
  | [] => rfl
  | b :: R => by
    show (if keyEq (.int b) (.int a) then some (Val.bl true) else dGet (rd R) (.int a)) = _
    rw [rd_get (R := R)]
    by_cases c : b = a
    · subst c; simp [keyEq]
    · simp [keyEq, c, Ne.symm c]
theorem rd_keys : ∀ R : List Int, dkeysI (rd R) = some R
  | [] => rfl
  | a :: R => by
    show (dkeysI (rd R)).map (a :: ·) = _
    rw [rd_keys R]; rfl
theorem rd_put {a : Int} {R : List Int} : dPut (rd R) (.int a) (.bl true) = rd (addR R a) := by
  unfold dPut addR
  rw [rd_get]
  by_cases c : a ∈ R
  · simp only [if_pos c, Option.isSome_some, if_true]
    unfold rd
    rw [List.map_map]
    apply List.map_congr_left
    intro b _
    show dRep (.int a) (.bl true) (.tup [.int b, .bl true]) = _
    simp [dRep]
  · simp [if_neg c, rd]
structure HS (h : MH) (n y o r : Nat) (room : Int) (Y O : List Ob) (R : List Int) : Prop where
  ob : h[n]? = some (.obj "Heap" (hfs room y o r))
  y_ : h[y]? = some (.lst (Y.map Ob.v))
  o_ : h[o]? = some (.lst (O.map Ob.v))
  r_ : h[r]? = some (.dct (rd R))
  yo : y ≠ o
theorem HS.fr {h h' : MH} {n y o r : Nat} {room : Int} {Y O : List Ob} {R : List Int} {S : List Nat} (H : HS h n y o r room Y O R) (f : FrS S h h') (a : n ∉ S) (b : y ∉ S) (c : o ∉ S) (d : r ∉ S) : HS h' n y o r room Y O R :=
  ⟨f.get H.ob a, f.get H.y_ b, f.get H.o_ c, f.get H.r_ d, H.yo⟩
theorem HS.ne {h : MH} {n y o r : Nat} {room : Int} {Y O : List Ob} {R : List Int} (H : HS h n y o r room Y O R) : n ≠ y ∧ n ≠ o ∧ n ≠ r ∧ y ≠ r ∧ o ≠ r := by
  refine ⟨?_, ?_, ?_, ?_, ?_⟩ <;> rintro rfl
  · have := H.ob.symm.trans H.y_; cases this
  · have := H.ob.symm.trans H.o_; cases this
  · have := H.ob.symm.trans H.r_; cases this
  · have := H.y_.symm.trans H.r_; cases this
  · have := H.o_.symm.trans H.r_; cases this
theorem tk2 {x y : Val} {h : MH} : tupR [x, y] h = .ok (.tup [x, y]) h := if_pos (by simp [sizeLine])
theorem tk3 {x y z : Val} {h : MH} : tupR [x, y, z] h = .ok (.tup [x, y, z]) h := if_pos (by simp [sizeLine])
theorem lt0 {h : MH} : lstR [] h = .ok (.loc h.length) (h ++ [.lst []]) := lstR_ok (by simp [sizeLine])
/-! draws -/
def Dv (h : MH) (d : Nat) : Prop := ∃ a b : Int, h[d]? = some (.lst [.int a, .int b]) ∧ 0 ≤ b ∧ b < 2147483647
theorem Dv.fr {h h' : MH} {d : Nat} {S : List Nat} (D : Dv h d) (f : FrS S h h') (n : d ∉ S) : Dv h' d := by
  obtain ⟨a, b, e, r⟩ := D
  exact ⟨a, b, f.get e n, r⟩
theorem lgs : (48271 : Int).natAbs.log2 ≤ 20 ∧ (69621 : Int).natAbs.log2 ≤ 20 := by decide
theorem take_ok {h : MH} {d k : Nat} {many : Int} {P : Val → MH → Prop} (D : Dv h d) (hm : 0 < many) (hl : many.natAbs.log2 < 9000)
    (H : ∀ (n : Nat) (h' : MH), (n : Int) < many → Dv h' d → FrS [d] h h' → P (.int n) h') : Ok (callK ft (k + 1) i__law_take [.loc d, .int many] h) P := by
  obtain ⟨a, b, e, b0, b1⟩ := D
  have ld := get_lt e
  apply Ok_call (F := ⟨2, 3, b__law_take⟩) rfl rfl (by decide)
  simp [b__law_take, idx_loc e]
  constructor
  · intro pa
    simp [idx_loc e, bin_mod hm, bin_fdiv ⟨hm, hl⟩]
    rw [set_loc (j := 0) e rfl]
    simp
    have z0 : 0 ≤ a % many := Int.emod_nonneg _ (by omega)
    have z1 : a % many < many := Int.emod_lt_of_pos _ hm
    have := H (a % many).toNat (h.set d (.lst [.int (a / many), .int b])) (by omega) ⟨a / many, b, List.getElem?_set_self ld, b0, b1⟩ (FrS.set _ _ (by simp))
    rwa [Int.toNat_of_nonneg z0] at this
  · intro _
    have lb : b.natAbs.log2 ≤ 31 := lg (by omega)
    have l48 := lgs.1
    simp [r__law_take_1, idx_loc e, bin_mul (i := b) (j := 48271) (by omega), bin_mod (j := 2147483647) (by decide)]
    rw [set_loc (j := 1) e rfl]
    have e2 : (h.set d (.lst [Val.int a, Val.int ((b * 48271 + 11) % 2147483647)]))[d]? = some (.lst [Val.int a, Val.int ((b * 48271 + 11) % 2147483647)]) := List.getElem?_set_self ld
    simp [idx_loc e2, bin_fdiv (j := 7) (by decide), bin_mod hm]
    have z0 : 0 ≤ ((b * 48271 + 11) % 2147483647 / 7) % many := Int.emod_nonneg _ (by omega)
    have z1 : ((b * 48271 + 11) % 2147483647 / 7) % many < many := Int.emod_lt_of_pos _ hm
    have := H (((b * 48271 + 11) % 2147483647 / 7) % many).toNat (h.set d (.lst [Val.int a, Val.int ((b * 48271 + 11) % 2147483647)])) (by omega) ⟨a, _, e2, by omega, by omega⟩ (FrS.set _ _ (by simp))
    rwa [Int.toNat_of_nonneg z0] at this
/-! the heap's own defs -/
@[simp] theorem cmp_eqB {a b : Bool} {h : MH} : cmpR .Eq (.bl a) (.bl b) h = .ok (.bl (a == b)) h := by cases a <;> cases b <;> rfl
@[simp] theorem cmp_neB {a b : Bool} {h : MH} : cmpR .NotEq (.bl a) (.bl b) h = .ok (.bl (!(a == b))) h := by cases a <;> cases b <;> rfl
theorem young_ok {f : F} {h : MH} {k : Nat} {P : Val → MH → Prop} (H : P (.bl (yng f)) h) : Ok (callK ft (k + 1) i_is_young [f.v] h) P := by
  apply Ok_call (F := ⟨1, 1, b_is_young⟩) rfl rfl (by decide)
  cases f with
  | int i => simpa [b_is_young, F.v, yng] using H
  | tag i => simpa [b_is_young, F.v, yng] using H
  | «at» a => simpa [b_is_young, F.v, yng] using H
theorem look_ok {h : MH} {n y o r k : Nat} {room : Int} {Y O : List Ob} {R : List Int} {a : Int} {x : Ob} {P : Val → MH → Prop} (S : HS h n y o r room Y O R) (e : if a < 0 then Y[(-a - 1).toNat]? = some x else O[a.toNat]? = some x) (H : P x.v h) :
    Ok (callK ft (k + 1) i_Heap_look [.loc n, (F.at a).v] h) P := by
  apply Ok_call (F := ⟨2, 3, b_Heap_look⟩) rfl rfl (by decide)
  simp [b_Heap_look, F.v]
  constructor
  · intro c
    rw [if_pos c] at e
    have e2 : atI (Y.map Ob.v) (-a - 1) = some x.v := by
      have := atI_lt (xs := Y.map Ob.v) (i := (-a - 1).toNat) (v := x.v) (by rw [List.getElem?_map, e]; rfl)
      rwa [Int.toNat_of_nonneg (by omega)] at this
    simpa [fldR_ok S.ob, idx_loc S.y_, e2] using H
  · intro c
    rw [if_neg (by omega)] at e
    have e2 : atI (O.map Ob.v) a = some x.v := by
      have := atI_lt (xs := O.map Ob.v) (i := a.toNat) (v := x.v) (by rw [List.getElem?_map, e]; rfl)
      rwa [Int.toNat_of_nonneg (by omega)] at this
    simpa [r_Heap_look_1, fldR_ok S.ob, idx_loc S.o_, e2] using H
theorem bi_lenD {h : MH} {n : Nat} {ps : List Val} (hn : h[n]? = some (.dct ps)) : biV .len [.loc n] h = .ok (.int ps.length) h := by simp [biV, hn]
theorem counts_ok {h : MH} {n y o r k : Nat} {room : Int} {Y O : List Ob} {R : List Int} {P : Val → MH → Prop} (S : HS h n y o r room Y O R) (H : P (.tup [.int Y.length, .int O.length, .int R.length]) h) :
    Ok (callK ft (k + 1) i_Heap_counts [.loc n] h) P := by
  apply Ok_call (F := ⟨1, 1, b_Heap_counts⟩) rfl rfl (by decide)
  simpa [b_Heap_counts, fldR_ok S.ob, bi_lenL S.y_, bi_lenL S.o_, bi_lenD S.r_, tk3, rd] using H
theorem full_ok {h : MH} {n y o r k : Nat} {room : Int} {Y O : List Ob} {R : List Int} {P : Val → MH → Prop} (S : HS h n y o r room Y O R) (H : P (.bl (decide (room ≤ (Y.length : Int)))) h) :
    Ok (callK ft (k + 1) i_Heap_is_full [.loc n] h) P := by
  apply Ok_call (F := ⟨1, 1, b_Heap_is_full⟩) rfl rfl (by decide)
  simpa [b_Heap_is_full, fldR_ok S.ob, bi_lenL S.y_] using H
theorem make_ok {h : MH} {n y o r k : Nat} {room : Int} {Y O : List Ob} {R : List Int} {x : Ob} {P : Val → MH → Prop} (S : HS h n y o r room Y O R) (l : Y.length < 1000)
    (H : ∀ h', HS h' n y o r room (Y ++ [x]) O R → FrS [y] h h' → P ((F.at (-((Y.length : Int) + 1))).v) h') :
    Ok (callK ft (k + 1) i_Heap_make [.loc n, .str x.kind, x.word.v, .tup (x.fs.map F.v)] h) P := by
  have ne := S.ne
  apply Ok_call (F := ⟨4, 4, b_Heap_make⟩) rfl rfl (by decide)
  simp [b_Heap_make, fldR_ok S.ob, (mtT_loc S.y_).1, tk3]
  rw [mt_append S.y_ (by simp [sizeLine]; omega)]
  have f : FrS [y] h (h.set y (.lst (Y.map Ob.v ++ [x.v]))) := FrS.set _ _ (by simp)
  have e2 : (h.set y (.lst (Y.map Ob.v ++ [x.v])))[y]? = some (.lst ((Y ++ [x]).map Ob.v)) := by rw [List.getElem?_set_self (get_lt S.y_)]; simp
  have S2 : HS (h.set y (.lst (Y.map Ob.v ++ [x.v]))) n y o r room (Y ++ [x]) O R :=
    ⟨f.get S.ob (by simp [ne.1]), e2, f.get S.o_ (by simp [Ne.symm S.yo]), f.get S.r_ (by simp [Ne.symm ne.2.2.2.1]), S.yo⟩
  have := H _ S2 f
  have e3 : (Val.tup [.str x.kind, x.word.v, .tup (x.fs.map F.v)]) = x.v := rfl
  rw [e3]
  simp [fldR_ok S2.ob, bi_lenL S2.y_, tk2]
  simpa [F.v, negR] using this
theorem putA_len {f : Str} {v : Val} : ∀ {fs : List (Str × Val)}, (putA f v fs).length ≤ fs.length + 1
  | [] => by simp [putA]
  | (g, x) :: r => by
    unfold putA
    split
    · simp
    · have := putA_len (f := f) (v := v) (fs := r)
      simp; omega
theorem stp {g : MH} {n : Nat} {c f : Str} {fs : List (Str × Val)} {x : MO} (e : g[n]? = some (.obj c fs)) :
    ((g ++ [x]).set n (.obj c (putA f (.loc g.length) fs)))[n]? = some (.obj c (putA f (.loc g.length) fs)) ∧ ((g ++ [x]).set n (.obj c (putA f (.loc g.length) fs)))[g.length]? = some x ∧ FrS [n] g ((g ++ [x]).set n (.obj c (putA f (.loc g.length) fs))) ∧ ((g ++ [x]).set n (.obj c (putA f (.loc g.length) fs))).length = g.length + 1 := by
  have l := get_lt e
  refine ⟨List.getElem?_set_self (by simp; omega), ?_, (FrS.app _ _ _).trans (FrS.set _ _ (by simp)) (fun x hx => .inl hx), by simp⟩
  rw [List.getElem?_set_ne (by omega)]; simp
theorem get_app {g : MH} {n : Nat} {o x : MO} (e : g[n]? = some o) : (g ++ [x])[n]? = some o := by rw [List.getElem?_append_left (get_lt e)]; exact e
theorem init_ok {h : MH} {k : Nat} {room : Int} {n : Nat} {P : Val → MH → Prop} (e : h[n]? = some (.obj "Heap" []))
    (H : ∀ h' y o r, HS h' n y o r room [] [] [] → FrS [n] h h' → h.length ≤ y → h.length ≤ o → h.length ≤ r → P .non h') : Ok (callK ft (k + 1) i_Heap___init__ [.loc n, .int room] h) P := by
  have ln := get_lt e
  apply Ok_call (F := ⟨2, 2, b_Heap___init__⟩) rfl rfl (by decide)
  simp [b_Heap___init__]
  rw [fset_ok e (by simp)]
  obtain ⟨g, hg⟩ : ∃ g, g = h.set n (.obj "Heap" [("room", .int room)]) := ⟨_, rfl⟩
  have eg : h.set n (.obj "Heap" (putA "room" (.int room) [])) = g := hg.symm
  rw [eg]
  have g0 : g[n]? = some (.obj "Heap" [("room", .int room)]) := by rw [hg]; exact List.getElem?_set_self ln
  have f0 : FrS [n] h g := by rw [hg]; exact FrS.set _ _ (by simp)
  have l0 : g.length = h.length := by rw [hg]; simp
  simp [lt0]
  rw [fset_ok (get_app g0) (by simp)]
  obtain ⟨a1, a2, a3, a4⟩ := stp (f := "young") (x := .lst []) g0
  generalize (g ++ [MO.lst []]).set n (.obj "Heap" (putA "young" (.loc g.length) [("room", .int room)])) = g2 at *
  simp [lt0]
  have z1 := putA_len (f := "young") (v := .loc g.length) (fs := [("room", .int room)])
  simp only [List.length_cons, List.length_nil] at z1
  rw [fset_ok (get_app a1) (by omega)]
  obtain ⟨b1, b2, b3, b4⟩ := stp (f := "old") (x := .lst []) a1
  generalize (g2 ++ [MO.lst []]).set n (.obj "Heap" (putA "old" (.loc g2.length) (putA "young" (.loc g.length) [("room", .int room)]))) = g3 at *
  simp
  have z2 := putA_len (f := "old") (v := .loc g2.length) (fs := putA "young" (.loc g.length) [("room", .int room)])
  rw [fset_ok (get_app b1) (by omega)]
  obtain ⟨c1, c2, c3, c4⟩ := stp (f := "remembered") (x := .dct []) b1
  generalize (g3 ++ [MO.dct []]).set n (.obj "Heap" (putA "remembered" (.loc g3.length) (putA "old" (.loc g2.length) (putA "young" (.loc g.length) [("room", .int room)])))) = g4 at *
  simp
  have n1 : g.length ∉ [n] := by simp; omega
  have n2 : g2.length ∉ [n] := by simp; omega
  refine H g4 g.length g2.length g3.length ⟨c1, ?_, ?_, c2, by omega⟩ (f0.trans (a3.trans (b3.trans c3 (fun x hx => .inl hx)) (fun x hx => .inl hx)) (fun x hx => .inl hx)) (by omega) (by omega) (by omega)
  · exact c3.get (b3.get a2 n1) n1
  · exact c3.get b2 n2
theorem store_ok0 {h : MH} {n y o r k : Nat} {room : Int} {Y O : List Ob} {R : List Int} {a : Int} {x : Ob} {f : F} {P : Val → MH → Prop} (S : HS h n y o r room Y O R) (e : if a < 0 then Y[(-a - 1).toNat]? = some x else O[a.toNat]? = some x) (lR : R.length < 1000)
    (H : ∀ h', HS h' n y o r room (if a < 0 then Y.set (-a - 1).toNat ⟨x.kind, x.word, [f]⟩ else Y) (if a < 0 then O else O.set a.toNat ⟨x.kind, x.word, [f]⟩) (if 0 ≤ a ∧ yng f = true then addR R a else R) → FrS [y, o, r] h h' → P .non h') :
    Ok (callK ft (k + 2) i_Heap_store [.loc n, (F.at a).v, f.v] h) P := by
  have ne := S.ne
  obtain ⟨j, hj⟩ : ∃ j, j = (-a - 1).toNat := ⟨_, rfl⟩
  rw [← hj] at H
  have e' := e
  rw [← hj] at e'
  apply Ok_call (F := ⟨3, 7, b_Heap_store⟩) rfl rfl (by decide)
  have e0 : idxR (F.at a).v (.int 1) h = .ok (.int a) h := by simp [F.v]
  simp [b_Heap_store, e0, isObj_ok S.ob]
  refine look_ok S e ?_
  have et : ∀ {ρ : Rho} {g : MH}, asgR (.tp [4, 5, 6]) ρ x.v g = .nx (((ρ.set 4 (some (.str x.kind))).set 5 (some (x.word.v))).set 6 (some (.tup (x.fs.map F.v)))) g := by intro ρ g; rfl
  simp [et]
  have ev : tupR [f.v] h = .ok (.tup [f.v]) h := if_pos (by simp [sizeLine])
  constructor
  · intro c
    simp [ev, tk3, fldR_ok S.ob]
    rw [if_pos c] at e'
    obtain ⟨l, _⟩ := List.getElem?_eq_some_iff.mp e'
    rw [set_loc (j := j) S.y_ (by
      unfold ixN
      rw [if_pos (by omega), if_pos (by simp; omega), ← hj])]
    simp
    have f1 : FrS [y, o, r] h (h.set y (.lst ((Y.map Ob.v).set j (.tup [.str x.kind, x.word.v, .tup [f.v]])))) := FrS.set _ _ (by simp)
    refine H _ ?_ f1
    rw [if_pos c, if_pos c, if_neg (by omega)]
    have f2 : FrS [y] h (h.set y (.lst ((Y.map Ob.v).set j (.tup [.str x.kind, x.word.v, .tup [f.v]])))) := FrS.set _ _ (by simp)
    refine ⟨f2.get S.ob (by simp [ne.1]), ?_, f2.get S.o_ (by simp [Ne.symm S.yo]), f2.get S.r_ (by simp [Ne.symm ne.2.2.2.1]), S.yo⟩
    rw [List.getElem?_set_self (get_lt S.y_), List.map_set]; rfl
  · intro c
    rw [if_neg (by omega)] at e
    obtain ⟨l, _⟩ := List.getElem?_eq_some_iff.mp e
    simp [r_Heap_store_1, ev, tk3, fldR_ok S.ob]
    rw [set_loc (j := a.toNat) S.o_ (by
      unfold ixN
      rw [if_pos (by omega), if_pos (by simp; omega)])]
    simp
    have f2 : FrS [o] h (h.set o (.lst ((O.map Ob.v).set a.toNat (.tup [.str x.kind, x.word.v, .tup [f.v]])))) := FrS.set _ _ (by simp)
    have S2 : HS (h.set o (.lst ((O.map Ob.v).set a.toNat (.tup [.str x.kind, x.word.v, .tup [f.v]])))) n y o r room Y (O.set a.toNat ⟨x.kind, x.word, [f]⟩) R := by
      refine ⟨f2.get S.ob (by simp [ne.2.1]), f2.get S.y_ (by simp [S.yo]), ?_, f2.get S.r_ (by simp [Ne.symm ne.2.2.2.2]), S.yo⟩
      rw [List.getElem?_set_self (get_lt S.o_), List.map_set]; rfl
    apply young_ok
    simp only [if_neg (show ¬ a < 0 by omega)] at H
    cases hy : yng f with
    | false =>
      simp
      exact H _ (by simpa [hy] using S2) (f2.mono (by simp))
    | true =>
      simp [fldR_ok S2.ob]
      have dp : dputV (.loc r) (.int a) (.bl true) (h.set o (.lst ((O.map Ob.v).set a.toNat (.tup [.str x.kind, x.word.v, .tup [f.v]])))) = .ok () ((h.set o (.lst ((O.map Ob.v).set a.toNat (.tup [.str x.kind, x.word.v, .tup [f.v]])))).set r (.dct (rd (addR R a)))) := by
        have z : (rd R).length < sizeLine := by simp [rd, sizeLine]; omega
        simp only [dputV, dctL, S2.r_, Val.key, Bool.true_and, decide_eq_true_eq, z, if_true, rd_put]
      rw [dp]
      simp
      have f3 : FrS [r] (h.set o (.lst ((O.map Ob.v).set a.toNat (.tup [.str x.kind, x.word.v, .tup [f.v]])))) ((h.set o (.lst ((O.map Ob.v).set a.toNat (.tup [.str x.kind, x.word.v, .tup [f.v]])))).set r (.dct (rd (addR R a)))) := FrS.set _ _ (by simp)
      refine H _ ?_ ((f2.mono (by simp)).trans f3 (fun z hz => .inl (by simp at hz; simp [hz])))
      rw [if_pos ⟨by omega, hy⟩]
      exact ⟨f3.get S2.ob (by simp [ne.2.2.1]), f3.get S2.y_ (by simp [ne.2.2.2.1]), f3.get S2.o_ (by simp [ne.2.2.2.2]), List.getElem?_set_self (get_lt S2.r_), S.yo⟩
theorem store_ok {h : MH} {n y o r k : Nat} {room : Int} {Y O : List Ob} {R : List Int} {a : Int} {x : Ob} {f : F} {P : Val → MH → Prop} (S : HS h n y o r room Y O R) (e : obAt Y O a = some x) (lR : R.length < 1000)
    (H : ∀ h', HS h' n y o r room (stY Y a f) (stO O a f) (stR R a f) → FrS [y, o, r] h h' → P .non h') :
    Ok (callK ft (k + 2) i_Heap_store [.loc n, (F.at a).v, f.v] h) P := by
  have e' : if a < 0 then Y[(-a - 1).toNat]? = some x else O[a.toNat]? = some x := by
    unfold obAt at e
    split at e
    · rename_i c; rw [if_pos c]; exact e
    · rename_i c; rw [if_neg c]; exact e
  refine store_ok0 S e' lR fun h' S' f' => H h' ?_ f'
  by_cases c : a < 0
  · rw [if_pos c] at e'
    have e1 : stY Y a f = Y.set (-a - 1).toNat ⟨x.kind, x.word, [f]⟩ := by unfold stY; rw [if_pos c, e']
    have e2 : stO O a f = O := by unfold stO; rw [if_pos c]
    have e3 : stR R a f = R := by unfold stR; rw [if_pos c]
    rw [if_pos c, if_pos c, if_neg (by omega)] at S'
    rw [e1, e2, e3]; exact S'
  · rw [if_neg c] at e'
    have e1 : stY Y a f = Y := by unfold stY; rw [if_neg c]
    have e2 : stO O a f = O.set a.toNat ⟨x.kind, x.word, [f]⟩ := by unfold stO; rw [if_neg c, e']
    have e3 : stR R a f = if 0 ≤ a ∧ yng f = true then addR R a else R := by
      unfold stR; rw [if_neg c]
      by_cases y : yng f = true
      · rw [if_pos y, if_pos ⟨by omega, y⟩]
      · rw [if_neg y, if_neg (fun z => y z.2)]
    rw [if_neg c, if_neg c] at S'
    rw [e1, e2, e3]; exact S'
end Gu
end

section
set_option linter.all false
set_option Elab.async false
namespace Gu
open PySem L2
abbrev mfs (n p : Nat) : List (Str × Val) := [("heap", .loc n), ("places", .loc p)]
@[simp] theorem m_heap {n p : Nat} : List.lookup ("heap" : Str) (mfs n p) = some (.loc n) := by rfl
@[simp] theorem m_places {n p : Nat} : List.lookup ("places" : Str) (mfs n p) = some (.loc p) := by rfl
@[simp] theorem m_1 {n p : Nat} : List.lookup ("value" : Str) (mfs n p) = none := by rfl
@[simp] theorem m_2 {n p : Nat} : List.lookup ("adjust" : Str) (mfs n p) = none := by rfl
def pdl (i : Nat) : List Nat → List Val
  | [] => []
  | y :: r => .tup [.int (-(y : Int) - 1), .int (i : Nat)] :: pdl (i + 1) r
theorem pdl_no {y : Nat} : ∀ {mv : List Nat} {i : Nat}, y ∉ mv → dGet (pdl i mv) (.int (-(y : Int) - 1)) = none
  | [], _, _ => rfl
  | z :: mv, i, h => by
    simp at h
    show (if keyEq (.int (-(z : Int) - 1)) (.int (-(y : Int) - 1)) then _ else dGet (pdl (i + 1) mv) _) = _
    rw [pdl_no h.2]
    have : ¬ (-(z : Int) - 1 = -(y : Int) - 1) := by omega
    simp [keyEq, this]
theorem pdl_get {y : Nat} : ∀ {mv : List Nat} {i j : Nat}, mv.Nodup → mv[j]? = some y → dGet (pdl i mv) (.int (-(y : Int) - 1)) = some (.int ((i + j : Nat) : Int))
  | [], _, _, _, h => by simp at h
  | z :: mv, i, 0, nd, h => by
    simp at h; subst h
    show (if keyEq (.int (-(z : Int) - 1)) (.int (-(z : Int) - 1)) then some (Val.int (i : Nat)) else _) = _
    simp [keyEq]
  | z :: mv, i, j + 1, nd, h => by
    rw [List.nodup_cons] at nd
    have h' : mv[j]? = some y := by simpa using h
    have ne : z ≠ y := by rintro rfl; exact nd.1 (List.mem_of_getElem? h')
    show (if keyEq (.int (-(z : Int) - 1)) (.int (-(y : Int) - 1)) then _ else dGet (pdl (i + 1) mv) _) = _
    rw [pdl_get nd.2 h']
    have : ¬ (-(z : Int) - 1 = -(y : Int) - 1) := by omega
    simp [keyEq, this]; omega
theorem pdl_app {y : Nat} : ∀ {mv : List Nat} {i : Nat}, pdl i (mv ++ [y]) = pdl i mv ++ [.tup [.int (-(y : Int) - 1), .int ((i + mv.length : Nat) : Int)]]
  | [], i => rfl
  | z :: mv, i => by
    show _ :: pdl (i + 1) (mv ++ [y]) = _
    rw [pdl_app (mv := mv)]
    simp [pdl]; omega
theorem pdl_put {y i : Nat} {mv : List Nat} (h : y ∉ mv) : dPut (pdl i mv) (.int (-(y : Int) - 1)) (.int ((i + mv.length : Nat) : Int)) = pdl i (mv ++ [y]) := by
  unfold dPut
  rw [pdl_no h, pdl_app]; rfl
theorem pdl_len : ∀ {mv : List Nat} {i : Nat}, (pdl i mv).length = mv.length
  | [], _ => rfl
  | z :: mv, i => by simp [pdl, pdl_len (mv := mv)]
theorem din_ok {h : MH} {n : Nat} {ps : List Val} {ng : Bool} {a : Int} (g : h[n]? = some (.dct ps)) : dinR ng (.int a) (.loc n) h = .ok (.bl (xor ng (dGet ps (.int a)).isSome)) h := by simp [dinR, dinV, dctL, g, Val.key, R.ofO]
theorem dget_ok {h : MH} {n : Nat} {ps : List Val} {a : Int} (g : h[n]? = some (.dct ps)) : dgetR (.loc n) (.int a) h = R.ofO (dGet ps (.int a)) h := by simp [dgetR, dgetV, dctL, g, Val.key]
theorem dput_ok {h : MH} {n : Nat} {ps : List Val} {a : Int} {v : Val} (g : h[n]? = some (.dct ps)) (l : ps.length < sizeLine) : dputV (.loc n) (.int a) v h = .ok () (h.set n (.dct (dPut ps (.int a) v))) := by
  simp only [dputV, dctL, g, Val.key, Bool.true_and, decide_eq_true_eq, l, if_true]
structure MS (h : MH) (m n y o r p : Nat) (room : Int) (Y O : List Ob) (R : List Int) (n0 : Nat) (mv : List Nat) : Prop where
  S : HS h n y o r room Y O R
  m_ : h[m]? = some (.obj "Moving" (mfs n p))
  p_ : h[p]? = some (.dct (pdl n0 mv))
  pr : p ≠ r
section
variable {Y O O' : List Ob} {R : List Int} {mv mv' : List Nat} {n0 : Nat} {h : MH} {m n y o r p : Nat} {room : Int}
theorem value_ok {k : Nat} {f f' : F} {P : Val → MH → Prop} (d : Mv Y n0 O mv f f' O' mv') (A : MS h m n y o r p room Y O R n0 mv)
    (H : ∀ h', MS h' m n y o r p room Y O' R n0 mv' → FrS [o, p] h h' → P f'.v h') :
    Ok (callK ft (k + 2) i_Moving_value [.loc m, f.v] h) P := by
  apply Ok_call (F := ⟨2, 2, b_Moving_value⟩) rfl rfl (by decide)
  simp [b_Moving_value]
  apply young_ok
  have ret : ∀ (O' : List Ob) (mv' : List Nat) (yy j : Nat) (h' : MH), MS h' m n y o r p room Y O' R n0 mv' → mv'.Nodup → mv'[j]? = some yy → P (F.at ((n0 + j : Nat) : Int)).v h' →
      OkS (evS (callK ft (k + 1)) r_Moving_value_1 [some (.loc m), some (F.at (-(yy : Int) - 1)).v] h') (fun _ h => P .non h) P (fun _ _ => False) (fun _ _ => False) := by
    intro O' mv' yy j h' A' nd ej fr'
    have e1 : ∀ {g : MH}, idxR (F.at (-(yy : Int) - 1)).v (.int 1) g = .ok (.int (-(yy : Int) - 1)) g := by intro g; simp [F.v]
    simp [r_Moving_value_1, e1, fldR_ok A'.m_, dget_ok A'.p_]
    rw [pdl_get nd ej]
    simp [tk2]
    simpa [F.v] using fr'
  cases d with
  | old hy =>
    rw [hy]
    simp
    exact H h A (FrS.refl _ _)
  | @had yy j nd ej =>
    have hy : yng (F.at (-(yy : Int) - 1)) = true := by simp [yng]; omega
    have e1 : ∀ {g : MH}, idxR (F.at (-(yy : Int) - 1)).v (.int 1) g = .ok (.int (-(yy : Int) - 1)) g := by intro g; simp [F.v]
    rw [hy]
    simp [r_Moving_value_2, e1, fldR_ok A.m_, din_ok A.p_]
    rw [pdl_get nd ej]
    simp
    exact ret O mv yy j h A nd ej (H h A (FrS.refl _ _))
  | @new yy x ex hm nd len l1 l2 =>
    have hy : yng (F.at (-(yy : Int) - 1)) = true := by simp [yng]; omega
    have e1 : ∀ {g : MH}, idxR (F.at (-(yy : Int) - 1)).v (.int 1) g = .ok (.int (-(yy : Int) - 1)) g := by intro g; simp [F.v]
    rw [hy]
    simp [r_Moving_value_2, e1, fldR_ok A.m_, din_ok A.p_]
    rw [pdl_no hm]
    simp
    simp [fldR_ok A.m_, fldR_ok A.S.ob, (mtT_loc A.S.o_).1, isObj_ok A.S.ob]
    refine look_ok A.S (x := x) (by rw [if_pos (by omega), show (-(-(yy : Int) - 1) - 1).toNat = yy by omega]; exact ex) ?_
    rw [mt_append A.S.o_ (by simp [sizeLine]; omega)]
    have ne := A.S.ne
    have f1 : FrS [o] h (h.set o (.lst (O.map Ob.v ++ [x.v]))) := FrS.set _ _ (by simp)
    have hpo : p ≠ o := by rintro rfl; have := A.p_.symm.trans A.S.o_; cases this
    have hpn : p ≠ n := by rintro rfl; have := A.p_.symm.trans A.S.ob; cases this
    have hpm : p ≠ m := by rintro rfl; have := A.p_.symm.trans A.m_; cases this
    have hpy : p ≠ y := by rintro rfl; have := A.p_.symm.trans A.S.y_; cases this
    have hmo : m ≠ o := by rintro rfl; have := A.m_.symm.trans A.S.o_; cases this
    have S1 : HS (h.set o (.lst (O.map Ob.v ++ [x.v]))) n y o r room Y (O ++ [x]) R :=
      ⟨f1.get A.S.ob (by simp [ne.2.1]), f1.get A.S.y_ (by simp [A.S.yo]), by rw [List.getElem?_set_self (get_lt A.S.o_)]; simp, f1.get A.S.r_ (by simp [Ne.symm ne.2.2.2.2]), A.S.yo⟩
    have m1 := f1.get A.m_ (by simp [hmo])
    have p1 := f1.get A.p_ (by simp [hpo])
    simp [fldR_ok m1, fldR_ok S1.ob, bi_lenL S1.o_, e1]
    have lp : (pdl n0 mv).length < sizeLine := by rw [pdl_len]; simp [sizeLine]; omega
    rw [dput_ok p1 lp]
    rw [show ((O.length : Nat) : Int) = ((n0 + mv.length : Nat) : Int) by rw [len]]
    rw [pdl_put hm]
    simp
    have f2 : FrS [p] (h.set o (.lst (O.map Ob.v ++ [x.v]))) ((h.set o (.lst (O.map Ob.v ++ [x.v]))).set p (.dct (pdl n0 (mv ++ [yy])))) := FrS.set _ _ (by simp)
    have A2 : MS ((h.set o (.lst (O.map Ob.v ++ [x.v]))).set p (.dct (pdl n0 (mv ++ [yy])))) m n y o r p room Y (O ++ [x]) R n0 (mv ++ [yy]) :=
      ⟨S1.fr f2 (by simp [Ne.symm hpn]) (by simp [Ne.symm hpy]) (by simp [Ne.symm hpo]) (by simp [Ne.symm A.pr]), f2.get m1 (by simp [Ne.symm hpm]), List.getElem?_set_self (get_lt p1), A.pr⟩
    exact ret (O ++ [x]) (mv ++ [yy]) yy mv.length _ A2 (by
      rw [List.nodup_append]
      exact ⟨nd, by simp, fun a ha b hb => by rintro rfl; simp at hb; subst hb; exact hm ha⟩) (by simp) (H _ A2 ((f1.mono (by simp)).trans f2 (fun z hz => .inl (by simp at hz; simp [hz]))))
end
theorem Mvs.len {Y : List Ob} {n0 : Nat} {O : List Ob} {mv : List Nat} {fs fs' : List F} {O' : List Ob} {mv' : List Nat} (d : Mvs Y n0 O mv fs fs' O' mv') : fs'.length = fs.length := by
  induction d with
  | nil => rfl
  | cons _ _ ih => simp [ih]
theorem Mvs.at {Y : List Ob} {n0 : Nat} {O' : List Ob} {mv' : List Nat} {fs fs' : List F} {j : Nat} (lj : j < fs.length) {O : List Ob} {mv : List Nat} (d : Mvs Y n0 O mv (fs.drop j) (fs'.drop j) O' mv') :
    ∃ f f' O1 mv1, fs[j]? = some f ∧ fs'[j]? = some f' ∧ Mv Y n0 O mv f f' O1 mv1 ∧ Mvs Y n0 O1 mv1 (fs.drop (j + 1)) (fs'.drop (j + 1)) O' mv' := by
  generalize e1 : fs.drop j = a at d
  generalize e2 : fs'.drop j = b at d
  cases d with
  | nil =>
    have := congrArg List.length e1
    simp at this; omega
  | @cons _ _ f f' O1 mv1 r r' _ _ d1 d2 =>
    have g1 : fs[j]? = some f := by
      have := congrArg (fun l => l[0]?) e1
      simpa using this
    have g2 : fs'[j]? = some f' := by
      have := congrArg (fun l => l[0]?) e2
      simpa using this
    have h1 : fs.drop (j + 1) = r := by
      have := congrArg List.tail e1
      simpa using this
    have h2 : fs'.drop (j + 1) = r' := by
      have := congrArg List.tail e2
      simpa using this
    exact ⟨f, f', O1, mv1, g1, g2, d1, by rw [h1, h2]; exact d2⟩
theorem it_tup {xs : List Val} {h : MH} : itR (.tup xs) h = .ok (.vals xs) h := rfl
section
variable {Y O O' : List Ob} {R : List Int} {mv mv' : List Nat} {n0 : Nat} {h : MH} {m n y o r p : Nat} {room : Int}
theorem MS.fr {h' : MH} {S : List Nat} (A : MS h m n y o r p room Y O R n0 mv) (f : FrS S h h') (a : ∀ x ∈ S, h.length ≤ x) : MS h' m n y o r p room Y O R n0 mv := by
  have q : ∀ {i : Nat} {ob : MO}, h[i]? = some ob → i ∉ S := fun e hm => by have := a _ hm; have := get_lt e; omega
  exact ⟨A.S.fr f (q A.S.ob) (q A.S.y_) (q A.S.o_) (q A.S.r_), f.get A.m_ (q A.m_), f.get A.p_ (q A.p_), A.pr⟩
theorem MS.fr2 {h0 h' : MH} {n0' : Nat} {S : List Nat} {O' : List Ob} {mv' : List Nat} (B : MS h0 m n y o r p room Y O' R n0' mv') (A : MS h m n y o r p room Y O R n0 mv) (f : FrS S h h') (a : ∀ x ∈ S, h0.length ≤ x) : MS h' m n y o r p room Y O R n0 mv := by
  have q : ∀ {i : Nat} {ob : MO}, h0[i]? = some ob → i ∉ S := fun e hm => by have := a _ hm; have := get_lt e; omega
  exact ⟨A.S.fr f (q B.S.ob) (q B.S.y_) (q B.S.o_) (q B.S.r_), f.get A.m_ (q B.m_), f.get A.p_ (q B.p_), A.pr⟩
/-- the values of some fields, moved -/
theorem values_ok {k : Nat} {fs fs' : List F} {ρ : Rho} {c : E} {P : Val → MH → Prop} (d : Mvs Y n0 O mv fs fs' O' mv') (A : MS h m n y o r p room Y O R n0 mv)
    (l5 : 5 < ρ.length) (lf : fs'.length ≤ 1000) (hc : ∀ x : Val, (ev (callK ft (k + 2)) c).v ((ρ.set 5 none).set 5 (some x)) = fun g => .ok (.loc m) g)
    (H : ∀ h' D, MS h' m n y o r p room Y O' R n0 mv' → FrS [o, p] h h' → h.length ≤ D → h'[D]? = some (.lst (fs'.map F.v)) → P (.loc D) h') :
    Ok (lcLoop h.length (.nm 5) (wipeR ρ [5]) (ev (callK ft (k + 2)) .nil).t (ev (callK ft (k + 2)) (.mcl i_Moving_value "Moving" "value" c (.cons (.var 5) .nil))).v (.vals (fs.map F.v)) (fs.map F.v).length 0 (h ++ [.lst []])) P := by
  have len := d.len
  refine lcLoop_ok (it := .vals (fs.map F.v)) (fun j h' => ∃ O1 mv1, MS h' m n y o r p room Y O1 R n0 mv1 ∧ Mvs Y n0 O1 mv1 (fs.drop j) (fs'.drop j) O' mv' ∧ FrS [o, p] h h' ∧ h'[h.length]? = some (.lst ((fs'.take j).map F.v))) ?_ ?_ _ 0 _ (by simp [Items.len]) ?_
  · rintro j h' lj ⟨O1, mv1, A', d', f', g'⟩
    have lj : j < fs.length := by simpa [Items.len] using lj
    obtain ⟨f, f2, O2, mv2, ef, ef2, d1, d2⟩ := d'.at lj
    refine ⟨f.v, _, by simp [Items.get, ef], rfl, ?_⟩
    simp [wipeR]
    rw [show (ρ.set 5 (some f.v)) = ((ρ.set 5 none).set 5 (some f.v)) by simp]
    rw [hc]
    simp [isObj_ok A'.m_, l5]
    refine value_ok d1 A' ?_
    intro h2 A3 frs3
    have lo : o < h.length := get_lt A.S.o_
    have lp : p < h.length := get_lt A.p_
    have gD := frs3.get g' (by simp; omega)
    refine ⟨_, gD, ?_, O2, mv2, ?_, d2, ?_, ?_⟩
    · simp [sizeLine]; omega
    · exact MS.fr2 A A3 (S := [h.length]) (FrS.set _ _ (by simp)) (by simp)
    · refine ⟨by have := f'.1; have := frs3.1; simp; omega, fun i li ni => ?_⟩
      rw [List.getElem?_set_ne (by omega)]
      exact (f'.trans frs3 (fun x hx => .inl hx)).2 i li ni
    · rw [List.getElem?_set_self (get_lt gD)]
      have : fs'.take (j + 1) = fs'.take j ++ [f2] := by rw [List.take_add_one, ef2]; rfl
      rw [← List.map_take, this]; simp
  · rintro h' ⟨O1, mv1, A', d', f', g'⟩
    refine ⟨rfl, ?_⟩
    have e : (Items.vals (fs.map F.v)).len = fs.length := by simp [Items.len]
    rw [e] at d' g'
    rw [List.drop_length, ← len, List.drop_length] at d'
    rw [← len, List.take_length] at g'
    cases d'
    exact H h' h.length A' f' (Nat.le_refl _) g'
  · exact ⟨O, mv, A.fr (S := []) (FrS.app _ _ _) (by simp), by simpa using d, FrS.app _ _ _, by simp⟩
theorem adjust_ok {k i : Nat} {P : Val → MH → Prop} (d : Adj Y n0 O mv i O' mv') (A : MS h m n y o r p room Y O R n0 mv)
    (H : ∀ h', MS h' m n y o r p room Y O' R n0 mv' → FrS [o, p] h h' → P .non h') :
    Ok (callK ft (k + 3) i_Moving_adjust [.loc m, .int i] h) P := by
  obtain ⟨ex, d, l4, li⟩ := d
  rename_i x fs' O1
  apply Ok_call (F := ⟨2, 6, b_Moving_adjust⟩) rfl rfl (by decide)
  have ei : atI (O.map Ob.v) (i : Int) = some x.v := atI_lt (by rw [List.getElem?_map, ex]; rfl)
  have et : ∀ {ρ : Rho} {g : MH}, asgR (.tp [2, 3, 4]) ρ x.v g = .nx (((ρ.set 2 (some (.str x.kind))).set 3 (some x.word.v)).set 4 (some (.tup (x.fs.map F.v)))) g := by intro ρ g; rfl
  simp [b_Moving_adjust, fldR_ok A.m_, fldR_ok A.S.ob, idx_loc A.S.o_, ei, et, it_tup]
  have := values_ok (k := k) (ρ := [some (.loc m), some (.int i), some (.str x.kind), some x.word.v, some (.tup (x.fs.map F.v)), none]) (c := .var 0) (P := fun a h_1 => Ok (biV BI.tuple [a] h_1) fun a h => Ok (tupR [Val.str x.kind, x.word.v, a] h) fun a h =>
        Ok (fldR "heap" (Val.loc m) h) fun a_2 h => Ok (fldR "old" a_2 h) fun a_1 h => Ok (setV a_1 (Val.int ↑i) a h) fun a h => P Val.non h) d A (by simp) (by omega) (fun z => rfl) ?_
  · simpa [Items.len] using this
  · intro h' D A' f' lD g'
    simp [bi_tupL g', tk3, fldR_ok A'.m_, fldR_ok A'.S.ob]
    rw [set_loc (j := i) A'.S.o_ (by
      unfold ixN
      rw [if_pos (by omega), if_pos (by simp; omega)]; simp)]
    simp
    have ne := A'.S.ne
    have f2 : FrS [o] h' (h'.set o (.lst ((O1.map Ob.v).set i (.tup [.str x.kind, x.word.v, .tup (fs'.map F.v)])))) := FrS.set _ _ (by simp)
    have hpo : p ≠ o := by rintro rfl; have := A.p_.symm.trans A.S.o_; cases this
    have hmo : m ≠ o := by rintro rfl; have := A.m_.symm.trans A.S.o_; cases this
    refine H _ ⟨⟨f2.get A'.S.ob (by simp [ne.2.1]), f2.get A'.S.y_ (by simp [A.S.yo]), ?_, f2.get A'.S.r_ (by simp [Ne.symm ne.2.2.2.2]), A.S.yo⟩, f2.get A'.m_ (by simp [hmo]), f2.get A'.p_ (by simp [hpo]), A.pr⟩ (f'.trans f2 (fun z hz => .inl (by simp at hz; simp [hz])))
    rw [List.getElem?_set_self (get_lt A'.S.o_), List.map_set]; rfl
end
end Gu
end

section
set_option linter.all false
set_option Elab.async false
namespace Gu
open PySem L2
theorem minit_ok {h : MH} {m n k : Nat} {P : Val → MH → Prop} (e : h[m]? = some (.obj "Moving" []))
    (H : ∀ h' p, h'[m]? = some (.obj "Moving" (mfs n p)) → h'[p]? = some (.dct []) → FrS [m] h h' → h.length ≤ p → P .non h') : Ok (callK ft (k + 1) i_Moving___init__ [.loc m, .loc n] h) P := by
  have lm := get_lt e
  apply Ok_call (F := ⟨2, 2, b_Moving___init__⟩) rfl rfl (by decide)
  simp [b_Moving___init__]
  rw [fset_ok e (by simp)]
  obtain ⟨g, hg⟩ : ∃ g, g = h.set m (.obj "Moving" [("heap", .loc n)]) := ⟨_, rfl⟩
  have eg : h.set m (.obj "Moving" (putA "heap" (.loc n) [])) = g := hg.symm
  rw [eg]
  have g0 : g[m]? = some (.obj "Moving" [("heap", .loc n)]) := by rw [hg]; exact List.getElem?_set_self lm
  have f0 : FrS [m] h g := by rw [hg]; exact FrS.set _ _ (by simp)
  have l0 : g.length = h.length := by rw [hg]; simp
  simp
  rw [fset_ok (get_app g0) (by simp)]
  obtain ⟨a1, a2, a3, a4⟩ := stp (f := "places") (x := .dct []) g0
  generalize (g ++ [MO.dct []]).set m (.obj "Moving" (putA "places" (.loc g.length) [("heap", .loc n)])) = g2 at *
  simp
  exact H g2 g.length a1 a2 (f0.trans a3 (fun x hx => .inl hx)) (by omega)
/-- over a list that stands still -/
theorem forLv_ok {N : Rho → MH → Prop} {T : Val → MH → Prop} {B C : Rho → MH → Prop} {ρ : Rho} {h : MH} {i0 D : Nat} {b : Rho → MH → RS} {xs : List Val} (I : Nat → Rho → MH → Prop)
    (hD : ∀ i ρ h, I i ρ h → h[D]? = some (.lst xs))
    (step : ∀ i ρ h x, xs[i]? = some x → I i ρ h → OkS (b (ρ.set i0 (some x)) h) (I (i + 1)) T N (I (i + 1)))
    (last : ∀ ρ h, I xs.length ρ h → N ρ h) (o : I 0 ρ h) : OkS (forL (.nm i0) b (.live D xs.length) xs.length 0 ρ h) N T B C :=
  forL_ok (it := .live D xs.length) I (fun i ρ h l p => by
    have l : i < xs.length := l
    refine ⟨xs[i], _, by simp [Items.get, seqL, hD i ρ h p, l], rfl, step i ρ h _ (List.getElem?_eq_getElem l) p⟩) (fun ρ h p => ⟨by simp [Items.fin, Items.len, seqL, hD _ ρ h p], last ρ h p⟩) xs.length 0 ρ h (by simp [Items.len]) o
/-- what minor keeps while it goes -/
structure Mn (h0 h : MH) (m n y o r p : Nat) (room : Int) (Y O : List Ob) (R : List Int) (n0 : Nat) (mv : List Nat) : Prop where
  A : MS h m n y o r p room Y O R n0 mv
  fr : FrS [o] h0 h
  lp : h0.length ≤ p
  lm : h0.length ≤ m
inductive FI (h0 : MH) (m n y o r p D : Nat) (room : Int) (Y : List Ob) (R : List Int) (n0 : Nat) (is : List Nat) (O2 : List Ob) (mv2 : List Nat) (fs' : List F) : Nat → Rho → MH → Prop
  | mk {i : Nat} {O : List Ob} {mv : List Nat} {h : MH} {a1 a5 a6 : Option Val} : Mn h0 h m n y o r p room Y O R n0 mv → Adjs Y n0 O mv (is.drop i) O2 mv2 → h[D]? = some (.lst (is.map fun i : Nat => Val.int i)) →
      FI h0 m n y o r p D room Y R n0 is O2 mv2 fs' i [some (.loc n), a1, some (.loc m), some (.int n0), some (.tup (fs'.map F.v)), a5, a6] h
inductive WI (h0 : MH) (m n y o r p : Nat) (room : Int) (Y : List Ob) (R : List Int) (n0 : Nat) (O' : List Ob) (mv' : List Nat) (fs' : List F) : Nat → Rho → MH → Prop
  | mk {k : Nat} {O : List Ob} {mv : List Nat} {h : MH} {scan : Nat} {a1 a5 a6 : Option Val} : Mn h0 h m n y o r p room Y O R n0 mv → Scn Y n0 k O mv scan O' mv' →
      WI h0 m n y o r p room Y R n0 O' mv' fs' k [some (.loc n), a1, some (.loc m), some (.int scan), some (.tup (fs'.map F.v)), a5, a6] h
theorem bi_sortD {h : MH} {r : Nat} {R : List Int} (g : h[r]? = some (.dct (rd R))) (l : R.length < 64) : biV .sorted [.loc r] h = .ok (.loc h.length) (h ++ [.lst ((sortI R).map .int)]) := by
  simp [biV, g, rd_keys, l]
theorem Adjs.at {Y : List Ob} {n0 : Nat} {O' : List Ob} {mv' : List Nat} {is : List Nat} {j i : Nat} (ej : is[j]? = some i) {O : List Ob} {mv : List Nat} (d : Adjs Y n0 O mv (is.drop j) O' mv') :
    ∃ O1 mv1, Adj Y n0 O mv i O1 mv1 ∧ Adjs Y n0 O1 mv1 (is.drop (j + 1)) O' mv' := by
  generalize e1 : is.drop j = a at d
  cases d with
  | nil =>
    have := congrArg List.length e1
    have := (List.getElem?_eq_some_iff.mp ej).1
    simp at *; omega
  | @cons _ _ i' O1 mv1 r _ _ d1 d2 =>
    have g1 : is[j]? = some i' := by
      have := congrArg (fun l => l[0]?) e1
      simpa using this
    rw [ej] at g1
    cases g1
    have h1 : is.drop (j + 1) = r := by
      have := congrArg List.tail e1
      simpa using this
    exact ⟨O1, mv1, d1, by rw [h1]; exact d2⟩
theorem minor_ok {Y O O' : List Ob} {R : List Int} {h : MH} {n y o r : Nat} {room : Int} {k : Nat} {fs fs' : List F} {P : Val → MH → Prop} (M : Min Y O R fs fs' O') (S : HS h n y o r room Y O R) (lf : fs.length ≤ 100)
    (H : ∀ h' y' r', HS h' n y' o r' room [] O' [] → FrS [n, o] h h' → h.length ≤ y' → h.length ≤ r' → P (.tup (fs'.map F.v)) h') :
    Ok (callK ft (k + 4) i_Heap_minor [.loc n, .tup (fs.map F.v)] h) P := by
  obtain ⟨O1, mv1, is, O2, mv2, mv3, kk, d1, eis, d2, d3, hkk, lR⟩ := M.ex
  have ne := S.ne
  have len1 := d1.len
  apply Ok_call (F := ⟨2, 7, b_Heap_minor⟩) rfl rfl (by decide)
  simp [b_Heap_minor]
  have e0 : (h ++ [MO.obj "Moving" []])[h.length]? = some (.obj "Moving" []) := by simp
  refine minit_ok e0 ?_
  intro h1 p gm gp f1 lp
  simp at lp
  have f01 : FrS [] h h1 := ⟨by have := f1.1; simp at this; omega, fun i li _ => by
    rw [f1.2 i (by simp; omega) (by simp; omega)]
    exact List.getElem?_append_left li⟩
  have S1 : HS h1 n y o r room Y O R := S.fr f01 (by simp) (by simp) (by simp) (by simp)
  have A1 : MS h1 h.length n y o r p room Y O R O.length [] := ⟨S1, gm, gp, by have := get_lt S.r_; omega⟩
  simp [fldR_ok S1.ob, bi_lenL S1.o_, it_tup, Val.isNon]
  have := values_ok (k := k + 1) (fs := fs) (ρ := [some (.loc n), some (.tup (fs.map F.v)), some (.loc h.length), some (.int O.length), none, none, none]) (c := .var 2)
    (P := fun a h_1 => Ok (biV BI.tuple [a] h_1) fun a h_1 => OkS (evS (callK ft (k + 3)) (.seq (.for_ (.nm 6) (.blt .sorted (.cons (.fld (.var 0) "remembered") .nil)) w_Heap_minor_1) r_Heap_minor_4) [some (.loc n), some (.tup (fs.map F.v)), some (.loc h.length), some (.int O.length), some a, none, none] h_1) (fun _ h => P .non h) P (fun _ _ => False) (fun _ _ => False))
    d1 A1 (by simp) (by omega) (fun z => rfl) ?_
  · simpa [Items.len] using this
  · intro h2 D A' f' lD g'
    simp [bi_tupL g', fldR_ok A'.S.ob, bi_sortD A'.S.r_ lR]
    have eis' : (sortI R).map Val.int = is.map fun i : Nat => Val.int i := by rw [eis, List.map_map]; rfl
    have lis : (sortI R).length = (is.map fun i : Nat => Val.int i).length := by rw [eis]; simp
    rw [eis']
    have gE : (h2 ++ [MO.lst (is.map fun i : Nat => Val.int i)])[h2.length]? = some (.lst (is.map fun i : Nat => Val.int i)) := by simp
    rw [itR_loc gE]
    simp only [Ok_ok]
    show OkS (forL (.nm 6) _ (.live h2.length (is.map fun i : Nat => Val.int i).length) (is.map fun i : Nat => Val.int i).length 0 _ _) _ _ _ _
    have ln := get_lt S.ob
    have l1 := f01.1
    have l2 := f'.1
    have fo : FrS [o] h h2 := (f01.mono (by simp)).trans f' (fun x hx => by
      simp at hx
      rcases hx with rfl | rfl
      · exact .inl (by simp)
      · exact .inr (by omega))
    have B0 : Mn h (h2 ++ [MO.lst (is.map fun i : Nat => Val.int i)]) h.length n y o r p room Y O1 R O.length mv1 :=
      ⟨A'.fr (S := []) (FrS.app _ _ _) (by simp), fo.trans (FrS.app [] _ _) (by simp), by omega, Nat.le_refl _⟩
    have step : ∀ {h3 : MH} {Oa Ob' : List Ob} {ma mb : List Nat} {i : Nat} {Q : Val → MH → Prop}, Mn h h3 h.length n y o r p room Y Oa R O.length ma → Adj Y O.length Oa ma i Ob' mb →
        (∀ h', Mn h h' h.length n y o r p room Y Ob' R O.length mb → FrS [o, p] h3 h' → Q .non h') → Ok (callK ft (k + 3) i_Moving_adjust [.loc h.length, .int i] h3) Q := by
      intro h3 Oa Ob' ma mb i Q B d hQ
      refine adjust_ok d B.A ?_
      intro h4 A4 f4
      refine hQ h4 ⟨A4, B.fr.trans f4 (fun x hx => ?_), B.lp, B.lm⟩ f4
      simp at hx
      rcases hx with rfl | rfl
      · exact .inl (by simp)
      · exact .inr B.lp
    refine forLv_ok (FI h h.length n y o r p h2.length room Y R O.length is O2 mv2 fs') ?_ ?_ ?_ (.mk (O := O1) (mv := mv1) B0 (by simpa using d2) gE)
    · rintro i ρ h3 ⟨B, d, g⟩
      exact g
    · rintro i ρ h3 x ex ⟨B, d, g⟩
      rw [List.getElem?_map] at ex
      cases ea : is[i]? with
      | none => rw [ea] at ex; cases ex
      | some a =>
      rw [ea] at ex
      cases ex
      obtain ⟨O4, mv4, d4, d5⟩ := d.at ea
      simp [w_Heap_minor_1, isObj_ok B.A.m_]
      refine step B d4 ?_
      intro h4 B4 f4
      refine .mk (O := O4) (mv := mv4) B4 d5 (f4.get g ?_)
      have q1 := get_lt A'.S.o_
      have q2 := get_lt A'.p_
      simp; omega
    · rintro ρ h3 ⟨B, d, g⟩
      have e9 : is.drop (List.map (fun i : Nat => Val.int i) is).length = [] := by simp
      rw [e9] at d
      cases d
      rename_i a1 a5 a6
      simp [r_Heap_minor_4]
      refine whl_ok (WI h h.length n y o r p room Y R O.length O' mv3 fs') ?_ manyTurns _ _ _ ?_ (.mk (O := O2) (mv := mv2) B d3)
      · rintro mm ρ h4 ⟨B, d⟩
        rename_i Oa ma scan b1 b5 b6
        simp [fldR_ok B.A.S.ob, bi_lenL B.A.S.o_]
        constructor
        · intro c
          cases d with
          | nil => omega
          | @cons k2 _ _ _ Ob' mb _ _ lt d4 d5 =>
          simp [w_Heap_minor_2, isObj_ok B.A.m_]
          refine step B d4 ?_
          intro h5 B5 f5
          exact ⟨k2, by omega, .mk (O := Ob') (mv := mb) B5 d5⟩
        · intro c
          cases d with
          | cons lt _ _ => omega
          | nil =>
          simp [r_Heap_minor_3, lt0]
          rw [fset_ok (get_app B.A.S.ob) (by simp)]
          have ne4 := B.A.S.ne
          obtain ⟨a1, a2', a3, a4⟩ := stp (f := "young") (x := .lst []) B.A.S.ob
          simp only [p_young] at a1 a2' a3 a4 ⊢
          generalize hg2 : (h4 ++ [MO.lst []]).set n (.obj "Heap" (hfs room h4.length o r)) = g2 at *
          simp
          rw [fset_ok (get_app a1) (by simp)]
          obtain ⟨c1, c2, c3, c4⟩ := stp (f := "remembered") (x := .dct []) a1
          simp only [p_rem] at c1 c2 c3 c4 ⊢
          generalize hg3 : (g2 ++ [MO.dct []]).set n (.obj "Heap" (hfs room h4.length o g2.length)) = g3 at *
          simp
          have lo := get_lt B.A.S.o_
          have lh := B.fr.1
          refine H g3 h4.length g2.length ⟨c1, ?_, ?_, c2, by omega⟩ ?_ (by omega) (by omega)
          · exact c3.get a2' (by simp; omega)
          · exact c3.get (a3.get B.A.S.o_ (by simp [Ne.symm ne4.2.1])) (by simp [Ne.symm ne4.2.1])
          · exact (B.fr.mono (by simp)).trans (a3.trans c3 (fun x hx => .inl hx)) (fun x hx => .inl (by simp at hx; simp [hx]))
      · simp [manyTurns]; omega
end Gu
end

section
set_option linter.all false
set_option Elab.async false
namespace Gu
open PySem L2
theorem dcLoop_ok {D : Nat} {t : NT} {ρ : Rho} {cnd : Rho → MH → R Bool} {kx vx : Rho → MH → R Val} {it : Items} {P : Val → MH → Prop} (I : Nat → MH → Prop)
    (step : ∀ i h, i < it.len → I i h → ∃ x ρ', it.get h i = some x ∧ setN t x ρ = some ρ' ∧ cnd ρ' h = .ok true h ∧ Ok (kx ρ' h) fun k h1 => Ok (vx ρ' h1) fun v h2 => Ok (dputV (.loc D) k v h2) fun _ h3 => I (i + 1) h3)
    (last : ∀ h, I it.len h → it.fin h = true ∧ P (.loc D) h) :
    ∀ (m i : Nat) (h : MH), i + m = it.len → I i h → Ok (dcLoop D t ρ cnd kx vx it m i h) P := by
  intro m
  induction m with
  | zero =>
    intro i h e p
    have e : i = it.len := by omega
    subst e
    have l := last h p
    show Ok (if it.fin h then .ok (.loc D) h else .no) P
    rw [if_pos l.1, Ok_ok]; exact l.2
  | succ m ih =>
    intro i h e p
    obtain ⟨x, ρ', g, s, c, k, h1, ek, v, h2, ev', u, h3, ed, p3⟩ := step i h (by omega) p
    have : dcLoop D t ρ cnd kx vx it (m + 1) i h = dcLoop D t ρ cnd kx vx it m (i + 1) h3 := by
      show (match it.get h i with
        | some x => match setN t x ρ with
          | some ρ' => match cnd ρ' h with
            | .ok true h0 => match kx ρ' h0 with
              | .ok k h1 => match vx ρ' h1 with
                | .ok v h2 => match dputV (.loc D) k v h2 with
                  | .ok _ h3 => dcLoop D t ρ cnd kx vx it m (i + 1) h3
                  | _ => .no
                | _ => .no
              | _ => .no
            | .ok false h0 => dcLoop D t ρ cnd kx vx it m (i + 1) h0
            | _ => .no
          | Option.none => .no
        | Option.none => .no) = _
      simp only [g, s, c, ek, ev', ed]
    rw [this]
    exact ih (i + 1) h3 (by omega) p3
def pkl (i : Nat) : List Int → List Val
  | [] => []
  | a :: r => .tup [.int a, .int (i : Nat)] :: pkl (i + 1) r
theorem pkl_get {a : Int} : ∀ {kept : List Int} {i : Nat}, dGet (pkl i kept) (.int a) = if a ∈ kept then some (.int ((i + kept.idxOf a : Nat) : Int)) else none
  | [], _ => rfl
  | b :: kept, i => by
    show (if keyEq (.int b) (.int a) then some (Val.int (i : Nat)) else dGet (pkl (i + 1) kept) (.int a)) = _
    rw [pkl_get (kept := kept)]
    by_cases c : b = a
    · subst c
      simp [keyEq]
    · have c2 : ¬ a = b := fun e => c e.symm
      have c3 : (b == a) = false := by simpa using c
      have e2 : (b :: kept).idxOf a = kept.idxOf a + 1 := by rw [List.idxOf_cons, c3]; rfl
      by_cases m : a ∈ kept
      · simp [keyEq, c, m, e2]; omega
      · simp [keyEq, c, c2, m]
theorem pkl_app {a : Int} : ∀ {kept : List Int} {i : Nat}, pkl i (kept ++ [a]) = pkl i kept ++ [.tup [.int a, .int ((i + kept.length : Nat) : Int)]]
  | [], i => rfl
  | b :: kept, i => by
    show _ :: pkl (i + 1) (kept ++ [a]) = _
    rw [pkl_app (kept := kept)]
    simp [pkl]; omega
theorem pkl_len : ∀ {kept : List Int} {i : Nat}, (pkl i kept).length = kept.length
  | [], _ => rfl
  | b :: kept, i => by simp [pkl, pkl_len (kept := kept)]
theorem placed_ok {h : MH} {pl k : Nat} {kept : List Int} {f : F} {P : Val → MH → Prop} (g : h[pl]? = some (.dct (pkl 0 kept))) (hf : In1 kept f) (H : P (plc kept f).v h) : Ok (callK ft (k + 1) i_placed [f.v, .loc pl] h) P := by
  apply Ok_call (F := ⟨2, 2, b_placed⟩) rfl rfl (by decide)
  cases f with
  | int i => simpa [b_placed, F.v, r_placed_1, plc] using H
  | tag i => simpa [b_placed, F.v, r_placed_1, plc] using H
  | «at» b =>
    have m : b ∈ kept := hf
    have e := pkl_get (a := b) (kept := kept) (i := 0)
    rw [if_pos m] at e
    simp [b_placed, F.v, dget_ok g, e, tk2]
    simpa [plc, F.v] using H
theorem pop_ok {h : MH} {n : Nat} {xs : List Val} {x : Val} (g : h[n]? = some (.lst (xs ++ [x]))) : mtV .pop (.loc n) [] h = .ok x (h.set n (.lst xs)) := by simp [mtV, g]
theorem ext_ok {h : MH} {n : Nat} {xs ys : List Val} (g : h[n]? = some (.lst xs)) (l : xs.length + ys.length ≤ sizeLine) : mtV .extend (.loc n) [.tup ys] h = .ok .non (h.set n (.lst (xs ++ ys))) := by simp [mtV, g, l]
inductive RI (h0 : MH) (n y o r Fd L : Nat) (room : Int) (O : List Ob) (R : List Int) (res : List Int) : Nat → Rho → MH → Prop
  | mk {k : Nat} {found : List Int} {left : List F} {h : MH} {a1 a4 : Option Val} : Rcp O k found left res → h[Fd]? = some (.dct (rd found)) → h[L]? = some (.lst (left.map F.v)) → HS h n y o r room [] O R → FrS [] h0 h →
      RI h0 n y o r Fd L room O R res k [some (.loc n), a1, some (.loc Fd), some (.loc L), a4] h
theorem rd_len {R : List Int} : (rd R).length = R.length := by simp [rd]
theorem reached_ok {O : List Ob} {h : MH} {n y o r : Nat} {room : Int} {k m : Nat} {R : List Int} {fs : List F} {res : List Int} {P : Val → MH → Prop} (d : Rcp O m [] fs res) (lm : m < 1000000) (lr : res.length < 64) (S : HS h n y o r room [] O R)
    (H : ∀ h' D, FrS [] h h' → h'[D]? = some (.lst ((sortI res).map Val.int)) → h.length ≤ D → P (.loc D) h') :
    Ok (callK ft (k + 1) i_Heap_reached [.loc n, .tup (fs.map F.v)] h) P := by
  apply Ok_call (F := ⟨2, 5, b_Heap_reached⟩) rfl rfl (by decide)
  simp [b_Heap_reached]
  have g1 : (h ++ [MO.dct [], MO.lst (fs.map F.v)])[h.length]? = some (.dct (rd [])) := by simp [rd]
  have g2 : (h ++ [MO.dct [], MO.lst (fs.map F.v)])[h.length + 1]? = some (.lst (fs.map F.v)) := by simp
  have S2 : HS (h ++ [MO.dct [], MO.lst (fs.map F.v)]) n y o r room [] O R := S.fr (FrS.app [] _ _) (by simp) (by simp) (by simp) (by simp)
  refine whl_ok (RI h n y o r h.length (h.length + 1) room O R res) ?_ manyTurns m _ _ ?_ (.mk d g1 g2 S2 (FrS.app [] _ _))
  · rintro m ρ h1 ⟨d, gF, gL, S1, f1⟩
    rename_i found left a1 a4
    simp [truR_loc gL]
    constructor
    · intro hne
      have q : ∀ {i : Nat} {ob : MO}, h[i]? = some ob → i ∉ [h.length + 1] := fun e hm => by have := get_lt e; simp at hm; omega
      have popd : ∀ (l : List F) (f : F), left = l ++ [f] → FrS [] h (h1.set (h.length + 1) (.lst (l.map F.v))) ∧ HS (h1.set (h.length + 1) (.lst (l.map F.v))) n y o r room [] O R ∧ (h1.set (h.length + 1) (MO.lst (l.map F.v)))[h.length]? = some (.dct (rd found)) ∧ (h1.set (h.length + 1) (MO.lst (l.map F.v)))[h.length + 1]? = some (.lst (l.map F.v)) ∧ mtV .pop (.loc (h.length + 1)) [] h1 = .ok f.v (h1.set (h.length + 1) (.lst (l.map F.v))) := by
        rintro l f rfl
        simp only [List.map_append, List.map_cons, List.map_nil] at gL
        have lL := get_lt gL
        have f2 : FrS [h.length + 1] h1 (h1.set (h.length + 1) (.lst (l.map F.v))) := FrS.set _ _ (by simp)
        exact ⟨f1.trans f2 (fun x hx => .inr (by simp at hx; omega)), S1.fr f2 (q S.ob) (q S.y_) (q S.o_) (q S.r_), f2.get gF (by simp), List.getElem?_set_self lL, pop_ok gL⟩
      cases d with
      | done => exact absurd rfl hne
      | @skip k2 _ l f _ hf d2 =>
        obtain ⟨f3, S3, gF2, gL2, ep⟩ := popd l f rfl
        simp [w_Heap_reached_1, (mtT_loc gL).2.1]
        rw [ep]
        cases f with
        | «at» a => cases hf
        | int i =>
          simp [F.v]
          exact ⟨_, by omega, .mk d2 gF2 gL2 S3 f3⟩
        | tag i =>
          simp [F.v]
          exact ⟨_, by omega, .mk d2 gF2 gL2 S3 f3⟩
      | @had k2 _ l a _ hm d2 =>
        obtain ⟨f3, S3, gF2, gL2, ep⟩ := popd l _ rfl
        simp [w_Heap_reached_1, (mtT_loc gL).2.1]
        rw [ep]
        simp [F.v, din_ok gF2, rd_get, hm]
        exact ⟨_, by omega, .mk d2 gF2 gL2 S3 f3⟩
      | @new k2 _ l a x _ hm a0 ex lf ll lx d2 =>
        obtain ⟨f3, S3, gF2, gL2, ep⟩ := popd l _ rfl
        simp [w_Heap_reached_1, (mtT_loc gL).2.1]
        rw [ep]
        simp [F.v, din_ok gF2, rd_get, hm]
        rw [dput_ok gF2 (by rw [rd_len]; simp [sizeLine]; omega), rd_put]
        have eR : addR found a = found ++ [a] := by simp [addR, hm]
        rw [eR]
        have f4 : FrS [h.length] (h1.set (h.length + 1) (.lst (l.map F.v))) ((h1.set (h.length + 1) (.lst (l.map F.v))).set h.length (.dct (rd (found ++ [a])))) := FrS.set _ _ (by simp)
        have q4 : ∀ {i : Nat} {ob : MO}, h[i]? = some ob → i ∉ [h.length] := fun e hm => by have := get_lt e; simp at hm; omega
        have S4 := S3.fr f4 (q4 S.ob) (q4 S.y_) (q4 S.o_) (q4 S.r_)
        have gF4 : ((h1.set (h.length + 1) (MO.lst (l.map F.v))).set h.length (.dct (rd (found ++ [a]))))[h.length]? = some (.dct (rd (found ++ [a]))) := List.getElem?_set_self (get_lt gF2)
        have gL4 := f4.get gL2 (by simp)
        have ei : atI (O.map Ob.v) a = some x.v := by
          have := atI_lt (xs := O.map Ob.v) (i := a.toNat) (v := x.v) (by rw [List.getElem?_map, ex]; rfl)
          rwa [Int.toNat_of_nonneg a0] at this
        simp [(mtT_loc gL4).2.2, fldR_ok S4.ob, idx_loc S4.o_, ei]
        have e2 : ∀ {g : MH}, idxR x.v (.int 2) g = .ok (.tup (x.fs.map F.v)) g := by intro g; simp [Ob.v]
        simp [e2]
        rw [ext_ok gL4 (by simp [sizeLine]; omega)]
        simp
        have f5 : FrS [h.length + 1] ((h1.set (h.length + 1) (.lst (l.map F.v))).set h.length (.dct (rd (found ++ [a])))) (((h1.set (h.length + 1) (.lst (l.map F.v))).set h.length (.dct (rd (found ++ [a])))).set (h.length + 1) (.lst ((l ++ x.fs).map F.v))) := FrS.set _ _ (by simp)
        rw [← List.map_append]
        exact ⟨k2, by omega, .mk (found := found ++ [a]) (left := l ++ x.fs) d2 (f5.get gF4 (by simp)) (List.getElem?_set_self (get_lt gL4)) (S4.fr f5 (q S.ob) (q S.y_) (q S.o_) (q S.r_)) ((f3.trans f4 (fun x hx => .inr (by simp at hx; omega))).trans f5 (fun x hx => .inr (by simp at hx; omega)))⟩
    · intro e
      cases d with
      | skip _ _ => simp at e
      | had _ _ => simp at e
      | new _ _ _ _ _ _ _ => simp at e
      | done =>
      simp [r_Heap_reached_2, bi_sortD gF lr]
      exact H _ h1.length (f1.trans (FrS.app [] _ _) (by simp)) (by simp) f1.1
  · simp [manyTurns]; omega
end Gu
end

section
set_option linter.all false
set_option Elab.async false
namespace Gu
open PySem L2
theorem placeds_ok {h : MH} {pl k s : Nat} {kept : List Int} {fs : List F} {ρ : Rho} {P : Val → MH → Prop} (g : h[pl]? = some (.dct (pkl 0 kept))) (hf : ∀ f ∈ fs, In1 kept f) (lf : fs.length ≤ 1000)
    (hc : ∀ (x : Val) (g : MH), (ev (callK ft (k + 1)) (.cons (.var s) (.cons (.var 3) .nil))).a ((ρ.set s none).set s (some x)) g = .ok [x, .loc pl] g)
    (H : ∀ h', FrS [] h h' → h'[h.length]? = some (.lst ((fs.map (plc kept)).map F.v)) → P (.loc h.length) h') :
    Ok (lcLoop h.length (.nm s) (wipeR ρ [s]) (ev (callK ft (k + 1)) .nil).t (ev (callK ft (k + 1)) (.call i_placed (.cons (.var s) (.cons (.var 3) .nil)))).v (.vals (fs.map F.v)) (fs.map F.v).length 0 (h ++ [.lst []])) P := by
  have lp := get_lt g
  refine lcLoop_ok (it := .vals (fs.map F.v)) (fun j h' => FrS [] h h' ∧ h'[h.length]? = some (.lst (((fs.take j).map (plc kept)).map F.v))) ?_ ?_ _ 0 _ (by simp [Items.len]) ?_
  · rintro j h' lj ⟨f', g'⟩
    have lj : j < fs.length := by simpa [Items.len] using lj
    refine ⟨(fs[j]).v, _, by simp [Items.get, lj], rfl, ?_⟩
    have e1 := fun g => hc (fs[j]).v g
    refine Ok_ok.2 ⟨fun _ => ?_, fun z => by cases z⟩
    rw [v_call]
    show Ok (((ev (callK ft (k + 1)) (.cons (.var s) (.cons (.var 3) .nil))).a ((ρ.set s none).set s (some (fs[j]).v)) h').bind _) _
    rw [e1]
    show Ok (callK ft (k + 1) i_placed [(fs[j]).v, .loc pl] h') _
    refine placed_ok (f'.get g (by simp)) (hf _ (List.getElem_mem lj)) ?_
    refine ⟨_, g', by simp [sizeLine]; omega, f'.trans (FrS.set (S := [h.length]) _ _ (by simp)) (fun x hx => .inr (by simp at hx; omega)), ?_⟩
    rw [List.getElem?_set_self (get_lt g'), List.take_add_one, List.getElem?_eq_getElem lj]
    simp only [Option.toList_some, List.map_append, List.map_cons, List.map_nil]
  · rintro h' ⟨f', g'⟩
    refine ⟨rfl, ?_⟩
    have e : (Items.vals (fs.map F.v)).len = fs.length := by simp [Items.len]
    rw [e, List.take_length] at g'
    exact H h' f' g'
  · exact ⟨FrS.app _ _ _, by simp⟩
theorem enm_loc {h : MH} {n : Nat} {xs : List Val} (g : h[n]? = some (.lst xs)) : enmR (.loc n) h = .ok (.enm n xs.length) h := by simp [enmR, enmOf, seqL, g]
theorem Kpt.at {O : List Ob} {kept as : List Int} {os : List Ob} {j : Nat} {a : Int} (ej : as[j]? = some a) (d : Kpt O kept (as.drop j) (os.drop j)) :
    ∃ o, 0 ≤ a ∧ O[a.toNat]? = some o ∧ (∀ f ∈ o.fs, In1 kept f) ∧ o.fs.length < 1000 ∧ os[j]? = some { o with fs := o.fs.map (plc kept) } ∧ Kpt O kept (as.drop (j + 1)) (os.drop (j + 1)) := by
  generalize e1 : as.drop j = x at d
  generalize e2 : os.drop j = y at d
  cases d with
  | nil =>
    have := congrArg List.length e1
    have := (List.getElem?_eq_some_iff.mp ej).1
    simp at *; omega
  | @cons b bs o r a0 eo i1 l1 d2 =>
    have g1 : as[j]? = some b := by
      have := congrArg (fun l => l[0]?) e1
      simpa using this
    rw [ej] at g1
    cases g1
    have g2 := congrArg (fun l => l[0]?) e2
    have h1 : as.drop (j + 1) = bs := by
      have := congrArg List.tail e1
      simpa using this
    have h2 : os.drop (j + 1) = r := by
      have := congrArg List.tail e2
      simpa using this
    exact ⟨o, a0, eo, i1, l1, by simpa using g2, by rw [h1, h2]; exact d2⟩
theorem Kpt.len {O : List Ob} {kept as : List Int} {os : List Ob} (d : Kpt O kept as os) : os.length = as.length := by
  induction d with
  | nil => rfl
  | cons _ _ _ _ _ ih => simp [ih]
structure Mj (h0 h : MH) (n y o r D pl ob : Nat) (room : Int) (O : List Ob) (kept : List Int) (O' : List Ob) (i : Nat) : Prop where
  S : HS h n y o r room [] O []
  D_ : h[D]? = some (.lst (kept.map Val.int))
  pl_ : h[pl]? = some (.dct (pkl 0 kept))
  ob_ : h[ob]? = some (.lst ((O'.take i).map Ob.v))
  fr : FrS [] h0 h
  d : Kpt O kept (kept.drop i) (O'.drop i)
inductive JI (h0 : MH) (n y o r D pl ob : Nat) (room : Int) (O : List Ob) (kept : List Int) (O' : List Ob) (rs : Val) : Nat → Rho → MH → Prop
  | mk {i : Nat} {h : MH} {a4 a5 a7 a8 a9 a10 a11 : Option Val} : Mj h0 h n y o r D pl ob room O kept O' i → JI h0 n y o r D pl ob room O kept O' rs i [some (.loc n), some rs, some (.loc D), some (.loc pl), a4, a5, some (.loc ob), a7, a8, a9, a10, a11] h
theorem insI_nd {x : Int} : ∀ {l : List Int}, (x :: l).Nodup → (insI x l).Nodup
  | [], _ => by simp [insI]
  | y :: r, h => by
    unfold insI
    split
    · exact h
    · have h1 := List.nodup_cons.mp h
      have h2 := List.nodup_cons.mp h1.2
      rw [List.nodup_cons]
      refine ⟨fun m => ?_, insI_nd (List.nodup_cons.mpr ⟨fun m => h1.1 (by simp [m]), h2.2⟩)⟩
      rcases insI_mem.mp m with rfl | m
      · exact h1.1 (by simp)
      · exact h2.1 m
theorem sortI_nd : ∀ {l : List Int}, l.Nodup → (sortI l).Nodup
  | [], _ => by simp [sortI]
  | x :: r, h => by
    have h1 := List.nodup_cons.mp h
    exact insI_nd (List.nodup_cons.mpr ⟨fun m => h1.1 (sortI_mem.mp m), sortI_nd h1.2⟩)
theorem major_ok {Y O O' : List Ob} {R : List Int} {h : MH} {n y o r : Nat} {room : Int} {k : Nat} {fs fs' : List F} {P : Val → MH → Prop} (M : Maj Y O R fs fs' O') (S0 : HS h n y o r room Y O R) (lf : fs.length ≤ 100)
    (H : ∀ h' y' o' r', HS h' n y' o' r' room [] O' [] → FrS [n, o] h h' → h.length ≤ y' → h.length ≤ o' → h.length ≤ r' → P (.tup (fs'.map F.v)) h') :
    Ok (callK ft (k + 5) i_Heap_major [.loc n, .tup (fs.map F.v)] h) P := by
  obtain ⟨fs1, Oa, nn, mm, res, Mn, d1, lnn, d2, lmm, lres, nd, dk, hin, efs, lfs⟩ := M.ex
  have len1 : fs1.length = fs.length := by obtain ⟨_, _, _, _, _, _, _, q, _⟩ := Mn.ex; exact q.len
  apply Ok_call (F := ⟨2, 12, b_Heap_major⟩) rfl rfl (by decide)
  simp [b_Heap_major, isObj_ok S0.ob]
  refine minor_ok Mn S0 lf ?_
  intro h1 y1 r1 S f1 ly lr
  simp [isObj_ok S.ob]
  refine reached_ok (k := k + 3) d2 lmm lres S ?_
  intro h2 D f2 gD lD
  have ndk := sortI_nd nd
  have lk : (sortI res).length < 64 := by rw [sortI_len]; exact lres
  generalize sortI res = kept at *
  have lO' := dk.len
  have S2 : HS h2 n y1 o r1 room [] Oa [] := S.fr f2 (by simp) (by simp) (by simp) (by simp)
  simp [enm_loc gD]
  have lD2 := get_lt gD
  refine dcLoop_ok (it := .enm D kept.length) (fun i h' => FrS [] h2 h' ∧ h'[h2.length]? = some (.dct (pkl 0 (kept.take i)))) ?_ ?_ _ 0 _ (by simp [Items.len]) ⟨FrS.app _ _ _, by simp [pkl]⟩
  · rintro i h' li ⟨f', g'⟩
    have li : i < kept.length := li
    have gD' := f'.get gD (by simp)
    refine ⟨.tup [.int i, .int kept[i]], _, by simp [Items.get, seqL, gD', li], rfl, rfl, ?_⟩
    have nm : kept[i] ∉ kept.take i := by
      intro hm
      obtain ⟨j, hj, ej⟩ := List.getElem_of_mem hm
      simp at hj
      rw [List.getElem_take] at ej
      have := (List.getElem_inj ndk).mp ej
      omega
    simp [wipeR]
    rw [dput_ok g' (by rw [pkl_len]; simp [sizeLine]; omega)]
    refine Ok_ok.2 ⟨f'.trans (FrS.set (S := [h2.length]) _ _ (by simp)) (fun x hx => .inr (by simp at hx; omega)), ?_⟩
    rw [List.getElem?_set_self (get_lt g'), List.take_add_one, List.getElem?_eq_getElem li]
    show _ = some (MO.dct (pkl 0 (kept.take i ++ [kept[i]])))
    rw [pkl_app]
    have e := pkl_get (a := kept[i]) (kept := kept.take i) (i := 0)
    rw [if_neg nm] at e
    unfold dPut
    rw [e]
    have e3 : (kept.take i).length = i := by simp; omega
    simp [e3]
  · rintro h3 ⟨f3, g3⟩
    have el : (Items.enm D kept.length).len = kept.length := rfl
    rw [el, List.take_length] at g3
    have gD3 := f3.get gD (by simp)
    refine ⟨by simp [Items.fin, seqL, gD3], ?_⟩
    have S3 : HS h3 n y1 o r1 room [] Oa [] := S2.fr f3 (by simp) (by simp) (by simp) (by simp)
    have l3 := get_lt g3
    simp [lt0]
    have gD4 : (h3 ++ [MO.lst []])[D]? = some (.lst (kept.map Val.int)) := get_app gD3
    rw [itR_loc gD4]
    simp
    rw [show kept.length = (kept.map Val.int).length by simp]
    refine forLv_ok (JI h2 n y1 o r1 D h2.length h3.length room Oa kept O' (.tup (fs1.map F.v))) ?_ ?_ ?_ (.mk ⟨S3.fr (FrS.app [] _ _) (by simp) (by simp) (by simp) (by simp), gD4, get_app g3, by simp, f3.trans (FrS.app [] _ _) (by simp), by simpa using dk⟩)
    · rintro i ρ h4 ⟨B⟩
      exact B.D_
    · rintro i ρ h4 x ex ⟨B⟩
      rw [List.getElem?_map] at ex
      cases ea : kept[i]? with
      | none => rw [ea] at ex; cases ex
      | some a =>
      rw [ea] at ex
      cases ex
      obtain ⟨xo, a0, exo, i1, lx, eO', dk2⟩ := B.d.at ea
      have li := (List.getElem?_eq_some_iff.mp ea).1
      have ei : atI (Oa.map Ob.v) a = some xo.v := by
        have := atI_lt (xs := Oa.map Ob.v) (i := a.toNat) (v := xo.v) (by rw [List.getElem?_map, exo]; rfl)
        rwa [Int.toNat_of_nonneg a0] at this
      have et : ∀ {ρ : Rho} {g : MH}, asgR (.tp [7, 8, 9]) ρ xo.v g = .nx (((ρ.set 7 (some (.str xo.kind))).set 8 (some xo.word.v)).set 9 (some (.tup (xo.fs.map F.v)))) g := by intro ρ g; rfl
      rename_i a4 a5 a7 a8 a9 a10 a11
      simp [w_Heap_major_1, fldR_ok B.S.ob, idx_loc B.S.o_, ei, et, (mtT_loc B.ob_).1, it_tup]
      have := placeds_ok (h := h4) (k := k + 3) (pl := h2.length) (s := 10) (kept := kept) (fs := xo.fs) (ρ := [some (.loc n), some (.tup (fs1.map F.v)), some (.loc D), some (.loc h2.length), a4, some (.int a), some (.loc h3.length), some (.str xo.kind), some xo.word.v, some (.tup (xo.fs.map F.v)), a10, a11])
        (P := fun z1 h_1 => Ok (biV BI.tuple [z1] h_1) fun z2 h => Ok (tupR [Val.str xo.kind, xo.word.v, z2] h) fun z3 h => Ok (mtV MI.append (Val.loc h3.length) [z3] h) fun z4 h => JI h2 n y1 o r1 D h2.length h3.length room Oa kept O' (.tup (fs1.map F.v)) (i + 1) [some (.loc n), some (.tup (fs1.map F.v)), some (.loc D), some (.loc h2.length), a4, some (.int a), some (.loc h3.length), some (.str xo.kind), some xo.word.v, some (.tup (xo.fs.map F.v)), a10, a11] h)
        B.pl_ i1 (by omega) (fun x g => by simp) ?_
      · simpa [Items.len] using this
      · intro h5 f5 g5
        have gob := f5.get B.ob_ (by simp)
        simp [bi_tupL g5, tk3]
        rw [mt_append gob (by simp [sizeLine]; omega)]
        refine Ok_ok.2 ?_
        have mkF : ∀ ob, FrS [h3.length] h5 (h5.set h3.length ob) := fun ob => FrS.set _ _ (by simp)
        have q3 : ∀ {j : Nat} {ob : MO}, h3[j]? = some ob → j ∉ [h3.length] := fun e hm => by have := get_lt e; simp at hm; omega
        refine .mk ⟨(B.S.fr f5 (by simp) (by simp) (by simp) (by simp)).fr (mkF _) (q3 S3.ob) (q3 S3.y_) (q3 S3.o_) (q3 S3.r_), (mkF _).get (f5.get B.D_ (by simp)) (q3 gD3), (mkF _).get (f5.get B.pl_ (by simp)) (q3 g3), ?_, (B.fr.trans f5 (by simp)).trans (mkF _) (fun x hx => .inr (by have := f3.1; simp at hx; omega)), dk2⟩
        rw [List.getElem?_set_self (get_lt gob)]
        have e9 : O'.take (i + 1) = O'.take i ++ [{ xo with fs := xo.fs.map (plc kept) }] := by rw [List.take_add_one, eO']; rfl
        rw [e9]
        simp [Ob.v]
    · rintro ρ h4 ⟨B⟩
      rename_i a4 a5 a7 a8 a9 a10 a11
      have B2 := B.ob_
      rw [List.length_map, ← lO', List.take_length] at B2
      have gob := B2
      simp [r_Heap_major_2]
      rw [fset_ok B.S.ob (by simp)]
      simp only [p_old]
      have ln4 := get_lt B.S.ob
      obtain ⟨g, hg⟩ : ∃ g, g = h4.set n (.obj "Heap" (hfs room y1 h3.length r1)) := ⟨_, rfl⟩
      rw [← hg]
      have f5 : FrS [n] h4 g := by rw [hg]; exact FrS.set _ _ (by simp)
      have ne := B.S.ne
      have lh1 := f1.1
      have lh2 := f2.1
      have lh3 := f3.1
      have ln := get_lt S0.ob
      have q : ∀ {j : Nat}, h.length ≤ j → j ∉ [n] := fun e hm => by simp at hm; omega
      have S5 : HS g n y1 h3.length r1 room [] O' [] :=
        ⟨by rw [hg]; exact List.getElem?_set_self ln4, f5.get B.S.y_ (q ly), f5.get gob (q (by omega)), f5.get B.S.r_ (q lr), by have := get_lt S3.y_; omega⟩
      simp [it_tup]
      have := placeds_ok (h := g) (k := k + 3) (pl := h2.length) (s := 11) (kept := kept) (fs := fs1) (ρ := [some (.loc n), some (.tup (fs1.map F.v)), some (.loc D), some (.loc h2.length), a4, a5, some (.loc h3.length), a7, a8, a9, a10, a11])
        (P := fun a h => Ok (biV BI.tuple [a] h) P) (f5.get B.pl_ (q (by omega))) hin (by omega) (fun x g => by simp) ?_
      · simpa [Items.len] using this
      · intro h6 f6 g6
        simp [bi_tupL g6]
        have := H h6 y1 h3.length r1 (S5.fr f6 (by simp) (by simp) (by simp) (by simp))
          (((f1.trans f2 (by simp)).trans B.fr (by simp)).trans (f5.trans f6 (by simp)) (fun x hx => .inl (by simp at hx; simp [hx]))) ly (by omega) lr
        rw [efs] at this
        simpa using this
end Gu
end

section
set_option linter.all false
set_option Elab.async false
namespace Gu
open PySem L2
/-! Gs2: rules for simp: steps, targets (session 6) -/
section
variable {call : CallT} {ρ : Rho} {h : MH} {a b e : E} {s : S}
@[simp] theorem v_stp : (ev call (.stp a b)).v ρ h = ((ev call a).v ρ h).bind fun x h1 => ((ev call b).v ρ h1).bind fun y h2 => stpV x y h2 := rfl
@[simp] theorem o_call {f : Nat} {es : E} : (ev call (.call f es)).o ρ h = ((ev call (.call f es)).v ρ h).bind intO := rfl
theorem stp_1 {n : Nat} {xs : List Val} (hn : h[n]? = some (.lst xs)) : stpV (.loc n) (.int 1) h = .ok (.loc h.length) (h ++ [.lst xs]) := by simp [stpV, seqL, hn]
theorem stp_m {n : Nat} {xs : List Val} (hn : h[n]? = some (.lst xs)) : stpV (.loc n) (.int (-1)) h = .ok (.loc h.length) (h ++ [.lst xs.reverse]) := by simp [stpV, seqL, hn]
def snR (call : CallT) (o i : E) (j : Nat) (ρ : Rho) (v : Val) (h1 : MH) : RS := match v with
        | .tup [v1, v2] => ((ev call o).v ρ h1).toS ρ fun x h2 => ((ev call i).v ρ h2).toS ρ fun y h3 => (setV x y v1 h3).toS ρ fun _ h4 => .nx (ρ.set j (some v2)) h4
        | _ => .no
@[simp] theorem e_sn {j : Nat} : evS call (.asg (.sn a b j) e) ρ h = ((ev call e).v ρ h).toS ρ (snR call a b j ρ) := rfl
@[simp] theorem snR_ok {j : Nat} {v1 v2 : Val} : snR call a b j ρ (.tup [v1, v2]) h = ((ev call a).v ρ h).toS ρ fun x h2 => ((ev call b).v ρ h2).toS ρ fun y h3 => (setV x y v1 h3).toS ρ fun _ h4 => .nx (ρ.set j (some v2)) h4 := rfl
@[simp] theorem e_forU {is : List Nat} : evS call (.forU is e s) ρ h = ((ev call e).i ρ h).toS ρ fun its h1 => forU is (evS call s) its its.len 0 ρ h1 := rfl
theorem mt_lidx {n : Nat} {ns : List Int} {i : Int} (hn : h[n]? = some (.lst (ns.map .int))) (c : i ∈ ns) : mtV .lidx (.loc n) [.int i] h = .ok (.int (ns.idxOf i : Nat)) h := by
  simp [mtV, seqL, hn, ints_map, c]
theorem mtT_lidx {n : Nat} {vs : List Val} (hn : h[n]? = some (.lst vs)) : mtT .lidx h (.loc n) = true := by simp [mtT, seqL, hn]
theorem bi_sortL {n : Nat} {ns : List Int} (hn : h[n]? = some (.lst (ns.map .int))) : biV .sorted [.loc n] h = .ok (.loc h.length) (h ++ [.lst ((sortI ns).map .int)]) := by
  simp [biV, hn, ints_map]
end
/-- over a list of lists, by turns -/
theorem forU_ok {N : Rho → MH → Prop} {T : Val → MH → Prop} {B C : Rho → MH → Prop} {is : List Nat} {b : Rho → MH → RS} {it : Items} (I : Nat → Rho → MH → Prop)
    (step : ∀ i ρ h, i < it.len → I i ρ h → ∃ x ρ1, it.get h i = some x ∧ setU is x h ρ = some ρ1 ∧ OkS (b ρ1 h) (I (i + 1)) T N (I (i + 1)))
    (last : ∀ ρ h, I it.len ρ h → it.fin h = true ∧ N ρ h) :
    ∀ (m i : Nat) (ρ : Rho) (h : MH), i + m = it.len → I i ρ h → OkS (forU is b it m i ρ h) N T B C := by
  intro m
  induction m with
  | zero =>
    intro i ρ h e p
    have e : i = it.len := by omega
    subst e
    have l := last ρ h p
    show OkS (if it.fin h then .nx ρ h else .no) N T B C
    rw [if_pos l.1]; exact OkS_d.2 l.2
  | succ m ih =>
    intro i ρ h e p
    obtain ⟨x, ρ1, g, s, o⟩ := step i ρ h (by omega) p
    show OkS (match it.get h i with
      | some x => match setU is x h ρ with
        | some ρ1 => match b ρ1 h with
          | .nx ρ' h' => forU is b it m (i + 1) ρ' h'
          | .ct ρ' h' => forU is b it m (i + 1) ρ' h'
          | .bk ρ' h' => .nx ρ' h'
          | r => r
        | Option.none => .no
      | Option.none => .no) N T B C
    rw [g]; simp only [s]
    rw [OkS_d] at o ⊢
    revert o
    cases b ρ1 h with
    | nx ρ' h' => exact fun i' => (ih _ ρ' h' (by omega) i').ok
    | ct ρ' h' => exact fun i' => (ih _ ρ' h' (by omega) i').ok
    | bk ρ' h' => exact fun p => p
    | rt v h' => exact fun p => p
    | no => exact fun p => p.elim
    | ex a b c d => exact fun p => p.elim
end Gu
end

section
set_option linter.all false
set_option Elab.async false
namespace Gu
open PySem L2
/-! k56: the law's own model -/
structure MD (h : MH) (m my mo mr : Nat) (Y O : List Ob) (R : List Int) : Prop where
  m_ : h[m]? = some (.lst [.loc my, .loc mo, .loc mr])
  y_ : h[my]? = some (.lst (Y.map Ob.v))
  o_ : h[mo]? = some (.lst (O.map Ob.v))
  r_ : h[mr]? = some (.lst (R.map Val.int))
  nd : [m, my, mo, mr].Nodup
section
variable {h h' : MH} {m my mo mr p : Nat} {Y O O' : List Ob} {R : List Int} {n0 : Nat} {mv mv' : List Nat}
theorem MD.fr {S : List Nat} (M : MD h m my mo mr Y O R) (f : FrS S h h') (a : m ∉ S) (b : my ∉ S) (c : mo ∉ S) (d : mr ∉ S) : MD h' m my mo mr Y O R :=
  ⟨f.get M.m_ a, f.get M.y_ b, f.get M.o_ c, f.get M.r_ d, M.nd⟩
theorem MD.ne (M : MD h m my mo mr Y O R) : m ≠ my ∧ m ≠ mo ∧ m ≠ mr ∧ my ≠ mo ∧ my ≠ mr ∧ mo ≠ mr := by
  have := M.nd
  simp at this
  omega
theorem MD.frN {S : List Nat} (M : MD h m my mo mr Y O R) (f : FrS S h h') (a : ∀ x ∈ S, h.length ≤ x) : MD h' m my mo mr Y O R := by
  have q : ∀ {i : Nat} {ob : MO}, h[i]? = some ob → i ∉ S := fun e hm => by have := a _ hm; have := get_lt e; omega
  exact M.fr f (q M.m_) (q M.y_) (q M.o_) (q M.r_)
theorem obAt_if {a : Int} {x : Ob} (e : obAt Y O a = some x) : if a < 0 then Y[(-a - 1).toNat]? = some x else O[a.toNat]? = some x := by
  unfold obAt at e
  split at e
  · rename_i c; rw [if_pos c]; exact e
  · rename_i c; rw [if_neg c]; exact e
theorem object_ok {k : Nat} {a : Int} {x : Ob} {P : Val → MH → Prop} (M : MD h m my mo mr Y O R) (e : obAt Y O a = some x) (H : P x.v h) : Ok (callK ft (k + 1) i__law_object [(F.at a).v, .loc m] h) P := by
  have e := obAt_if e
  apply Ok_call (F := ⟨2, 2, b__law_object⟩) rfl rfl (by decide)
  have e1 : ∀ {g : MH}, idxR (F.at a).v (.int 1) g = .ok (.int a) g := by intro g; simp [F.v]
  simp [b__law_object, e1]
  constructor
  · intro c
    rw [if_pos c] at e
    have e2 : atI (Y.map Ob.v) (-a - 1) = some x.v := by
      have := atI_lt (xs := Y.map Ob.v) (i := (-a - 1).toNat) (v := x.v) (by rw [List.getElem?_map, e]; rfl)
      rwa [Int.toNat_of_nonneg (by omega)] at this
    simpa [idx_loc M.m_, idx_loc M.y_, e2] using H
  · intro c
    rw [if_neg (by omega)] at e
    have e2 : atI (O.map Ob.v) a = some x.v := by
      have := atI_lt (xs := O.map Ob.v) (i := a.toNat) (v := x.v) (by rw [List.getElem?_map, e]; rfl)
      rwa [Int.toNat_of_nonneg (by omega)] at this
    simpa [r__law_object_1, idx_loc M.m_, idx_loc M.o_, e2, e1] using H
structure MM (h : MH) (m my mo mr p : Nat) (Y O : List Ob) (R : List Int) (n0 : Nat) (mv : List Nat) : Prop where
  M : MD h m my mo mr Y O R
  p_ : h[p]? = some (.dct (pdl n0 mv))
theorem MM.ne (A : MM h m my mo mr p Y O R n0 mv) : p ≠ m ∧ p ≠ my ∧ p ≠ mo ∧ p ≠ mr := by
  refine ⟨?_, ?_, ?_, ?_⟩ <;> rintro rfl
  · have := A.p_.symm.trans A.M.m_; cases this
  · have := A.p_.symm.trans A.M.y_; cases this
  · have := A.p_.symm.trans A.M.o_; cases this
  · have := A.p_.symm.trans A.M.r_; cases this
theorem MM.fr {S : List Nat} (A : MM h m my mo mr p Y O R n0 mv) (f : FrS S h h') (a : ∀ x ∈ S, h.length ≤ x) : MM h' m my mo mr p Y O R n0 mv := by
  have q : ∀ {i : Nat} {ob : MO}, h[i]? = some ob → i ∉ S := fun e hm => by have := a _ hm; have := get_lt e; omega
  exact ⟨A.M.fr f (q A.M.m_) (q A.M.y_) (q A.M.o_) (q A.M.r_), f.get A.p_ (q A.p_)⟩
theorem MM.fr2 {h0 : MH} {n0' : Nat} {S : List Nat} {O' : List Ob} {mv' : List Nat} (B : MM h0 m my mo mr p Y O' R n0' mv') (A : MM h m my mo mr p Y O R n0 mv) (f : FrS S h h') (a : ∀ x ∈ S, h0.length ≤ x) : MM h' m my mo mr p Y O R n0 mv := by
  have q : ∀ {i : Nat} {ob : MO}, h0[i]? = some ob → i ∉ S := fun e hm => by have := a _ hm; have := get_lt e; omega
  exact ⟨A.M.fr f (q B.M.m_) (q B.M.y_) (q B.M.o_) (q B.M.r_), f.get A.p_ (q B.p_)⟩
theorem move_ok {k : Nat} {f f' : F} {P : Val → MH → Prop} (d : Mv Y n0 O mv f f' O' mv') (A : MM h m my mo mr p Y O R n0 mv)
    (H : ∀ h', MM h' m my mo mr p Y O' R n0 mv' → FrS [mo, p] h h' → P f'.v h') :
    Ok (callK ft (k + 1) i__law_move [f.v, .loc m, .loc p] h) P := by
  apply Ok_call (F := ⟨3, 3, b__law_move⟩) rfl rfl (by decide)
  have ret : ∀ (O' : List Ob) (mv' : List Nat) (yy j : Nat) (h' : MH), MM h' m my mo mr p Y O' R n0 mv' → mv'.Nodup → mv'[j]? = some yy → P (F.at ((n0 + j : Nat) : Int)).v h' →
      OkS (evS (callK ft k) r__law_move_1 [some (F.at (-(yy : Int) - 1)).v, some (.loc m), some (.loc p)] h') (fun _ h => P .non h) P (fun _ _ => False) (fun _ _ => False) := by
    intro O' mv' yy j h' A' nd ej fr'
    have e1 : ∀ {g : MH}, idxR (F.at (-(yy : Int) - 1)).v (.int 1) g = .ok (.int (-(yy : Int) - 1)) g := by intro g; simp [F.v]
    simp [r__law_move_1, e1, dget_ok A'.p_]
    rw [pdl_get nd ej]
    simp [tk2]
    simpa [F.v] using fr'
  cases d with
  | old hy =>
    have := H h A (FrS.refl _ _)
    cases f with
    | int i => simpa [b__law_move, F.v] using this
    | tag i => simpa [b__law_move, F.v] using this
    | «at» a =>
      have c : ¬ a < 0 := by simpa [yng] using hy
      simp [b__law_move, F.v]
      exact ⟨fun _ => this, fun z => by omega⟩
  | @had yy j nd ej =>
    have e0 : ∀ {g : MH}, idxR (F.at (-(yy : Int) - 1)).v (.int 0) g = .ok (.str [97, 116]) g := by intro g; simp [F.v]
    have e1 : ∀ {g : MH}, idxR (F.at (-(yy : Int) - 1)).v (.int 1) g = .ok (.int (-(yy : Int) - 1)) g := by intro g; simp [F.v]
    have c : ¬ (0 ≤ -(yy : Int) - 1) := by omega
    simp [b__law_move, e0, e1, c, r__law_move_2, din_ok A.p_]
    rw [pdl_get nd ej]
    simp
    exact ⟨fun z => by omega, fun _ => ret O mv yy j h A nd ej (H h A (FrS.refl _ _))⟩
  | @new yy x ex hm nd len l1 l2 =>
    have e0 : ∀ {g : MH}, idxR (F.at (-(yy : Int) - 1)).v (.int 0) g = .ok (.str [97, 116]) g := by intro g; simp [F.v]
    have e1 : ∀ {g : MH}, idxR (F.at (-(yy : Int) - 1)).v (.int 1) g = .ok (.int (-(yy : Int) - 1)) g := by intro g; simp [F.v]
    have c : ¬ (0 ≤ -(yy : Int) - 1) := by omega
    have ne := A.M.ne
    have np := A.ne
    have ey : atI (Y.map Ob.v) (-(-(yy : Int) - 1) - 1) = some x.v := by
      rw [show (-(-(yy : Int) - 1) - 1) = (yy : Int) by omega]
      exact atI_lt (by rw [List.getElem?_map, ex]; rfl)
    simp [b__law_move, e0, e1, c, r__law_move_2, din_ok A.p_]
    rw [pdl_no hm]
    simp
    simp [idx_loc A.M.m_, (mtT_loc A.M.o_).1, idx_loc A.M.y_, ey]
    rw [mt_append A.M.o_ (by simp [sizeLine]; omega)]
    have f1 : FrS [mo] h (h.set mo (.lst (O.map Ob.v ++ [x.v]))) := FrS.set _ _ (by simp)
    have M1 : MD (h.set mo (.lst (O.map Ob.v ++ [x.v]))) m my mo mr Y (O ++ [x]) R :=
      ⟨f1.get A.M.m_ (by simp [ne.2.1]), f1.get A.M.y_ (by simp [ne.2.2.2.1]), by rw [List.getElem?_set_self (get_lt A.M.o_)]; simp, f1.get A.M.r_ (by simp [Ne.symm ne.2.2.2.2.2]), A.M.nd⟩
    have p1 := f1.get A.p_ (by simp [np.2.2.1])
    simp [idx_loc M1.m_, bi_lenL M1.o_, e1]
    have lp : (pdl n0 mv).length < sizeLine := by rw [pdl_len]; simp [sizeLine]; omega
    rw [dput_ok p1 lp]
    rw [show ((O.length : Nat) : Int) = ((n0 + mv.length : Nat) : Int) by rw [len]]
    rw [pdl_put hm]
    simp
    have f2 : FrS [p] (h.set mo (.lst (O.map Ob.v ++ [x.v]))) ((h.set mo (.lst (O.map Ob.v ++ [x.v]))).set p (.dct (pdl n0 (mv ++ [yy])))) := FrS.set _ _ (by simp)
    have A2 : MM ((h.set mo (.lst (O.map Ob.v ++ [x.v]))).set p (.dct (pdl n0 (mv ++ [yy])))) m my mo mr p Y (O ++ [x]) R n0 (mv ++ [yy]) :=
      ⟨M1.fr f2 (by simp [Ne.symm np.1]) (by simp [Ne.symm np.2.1]) (by simp [Ne.symm np.2.2.1]) (by simp [Ne.symm np.2.2.2]), List.getElem?_set_self (get_lt p1)⟩
    refine ⟨fun z => by omega, fun _ => ?_⟩
    exact ret (O ++ [x]) (mv ++ [yy]) yy mv.length _ A2 (by
      rw [List.nodup_append]
      exact ⟨nd, by simp, fun a ha b hb => by rintro rfl; simp at hb; subst hb; exact hm ha⟩) (by simp) (H _ A2 ((f1.mono (by simp)).trans f2 (fun z hz => .inl (by simp at hz; simp [hz]))))
theorem moves_ok {k : Nat} {fs fs' : List F} {ρ : Rho} {it : Items} {P : Val → MH → Prop} (d : Mvs Y n0 O mv fs fs' O' mv') (A : MM h m my mo mr p Y O R n0 mv) (lf : fs'.length ≤ 1000)
    (il : it.len = fs.length) (ig : ∀ h', (∀ i, i < h.length → i ∉ [mo, p] → h'[i]? = h[i]?) → it.fin h' = true ∧ ∀ (j : Nat) f, fs[j]? = some f → it.get h' j = some f.v)
    (hc : ∀ (x : Val) (g : MH), (ev (callK ft (k + 1)) (.cons (.var 4) (.cons (.var 1) (.cons (.var 2) .nil)))).a ((ρ.set 4 none).set 4 (some x)) g = .ok [x, .loc m, .loc p] g)
    (H : ∀ h', MM h' m my mo mr p Y O' R n0 mv' → FrS [mo, p] h h' → h'[h.length]? = some (.lst (fs'.map F.v)) → P (.loc h.length) h') :
    Ok (lcLoop h.length (.nm 4) (wipeR ρ [4]) (ev (callK ft (k + 1)) .nil).t (ev (callK ft (k + 1)) (.call i__law_move (.cons (.var 4) (.cons (.var 1) (.cons (.var 2) .nil))))).v it it.len 0 (h ++ [.lst []])) P := by
  have len := d.len
  refine lcLoop_ok (it := it) (fun j h' => ∃ O1 mv1, MM h' m my mo mr p Y O1 R n0 mv1 ∧ Mvs Y n0 O1 mv1 (fs.drop j) (fs'.drop j) O' mv' ∧ FrS [mo, p] h h' ∧ h'[h.length]? = some (.lst ((fs'.take j).map F.v))) ?_ ?_ _ 0 _ (by simp) ?_
  · rintro j h' lj ⟨O1, mv1, A', d', f', g'⟩
    have lj : j < fs.length := by rw [← il]; exact lj
    obtain ⟨f, f2, O2, mv2, ef, ef2, d1, d2⟩ := d'.at lj
    refine ⟨f.v, _, (ig h' f'.2).2 j f ef, rfl, ?_⟩
    refine Ok_ok.2 ⟨fun _ => ?_, fun z => by cases z⟩
    rw [v_call]
    show Ok (((ev (callK ft (k + 1)) (.cons (.var 4) (.cons (.var 1) (.cons (.var 2) .nil)))).a ((ρ.set 4 none).set 4 (some f.v)) h').bind _) _
    rw [hc]
    show Ok (callK ft (k + 1) i__law_move [f.v, .loc m, .loc p] h') _
    refine move_ok d1 A' ?_
    intro h2 A3 frs3
    have lo : mo < h.length := get_lt A.M.o_
    have lp : p < h.length := get_lt A.p_
    have gD := frs3.get g' (by simp; omega)
    refine ⟨_, gD, ?_, O2, mv2, ?_, d2, ?_, ?_⟩
    · simp [sizeLine]; omega
    · exact MM.fr2 A A3 (S := [h.length]) (FrS.set _ _ (by simp)) (by simp)
    · refine ⟨by have := f'.1; have := frs3.1; simp; omega, fun i li ni => ?_⟩
      rw [List.getElem?_set_ne (by omega)]
      exact (f'.trans frs3 (fun x hx => .inl hx)).2 i li ni
    · rw [List.getElem?_set_self (get_lt gD)]
      have : fs'.take (j + 1) = fs'.take j ++ [f2] := by rw [List.take_add_one, ef2]; rfl
      rw [this]; simp
  · rintro h' ⟨O1, mv1, A', d', f', g'⟩
    refine ⟨(ig h' f'.2).1, ?_⟩
    rw [il] at d' g'
    rw [List.drop_length, ← len, List.drop_length] at d'
    rw [← len, List.take_length] at g'
    cases d'
    exact H h' A' f' g'
  · exact ⟨O, mv, A.fr (S := []) (FrS.app _ _ _) (by simp), by simpa using d, FrS.app _ _ _, by simp⟩
theorem ladjust_ok {k i : Nat} {P : Val → MH → Prop} (d : Adj Y n0 O mv i O' mv') (A : MM h m my mo mr p Y O R n0 mv)
    (H : ∀ h', MM h' m my mo mr p Y O' R n0 mv' → FrS [mo, p] h h' → P .non h') :
    Ok (callK ft (k + 2) i__law_adjust [.int i, .loc m, .loc p] h) P := by
  obtain ⟨ex, d, l4, li⟩ := d
  rename_i x fs' O1
  apply Ok_call (F := ⟨3, 5, b__law_adjust⟩) rfl rfl (by decide)
  have ei : atI (O.map Ob.v) (i : Int) = some x.v := atI_lt (by rw [List.getElem?_map, ex]; rfl)
  have x0 : ∀ {g : MH}, idxR x.v (.int 0) g = .ok (.str x.kind) g := by intro g; simp [Ob.v]
  have x1 : ∀ {g : MH}, idxR x.v (.int 1) g = .ok x.word.v g := by intro g; simp [Ob.v]
  have x2 : ∀ {g : MH}, idxR x.v (.int 2) g = .ok (.tup (x.fs.map F.v)) g := by intro g; simp [Ob.v]
  simp [b__law_adjust, idx_loc A.M.m_, idx_loc A.M.o_, ei, x0, x1, x2, it_tup]
  have := moves_ok (k := k) (ρ := [some (.int i), some (.loc m), some (.loc p), some x.v, none]) (it := .vals (x.fs.map F.v)) (P := fun a h_1 => Ok (biV BI.tuple [a] h_1) fun a h => Ok (tupR [Val.str x.kind, x.word.v, a] h) fun a h =>
        Ok (idxR (.loc m) (.int 1) h) fun a_1 h => Ok (setV a_1 (Val.int ↑i) a h) fun a h => P Val.non h) d A (by omega) (by simp [Items.len]) (fun h' _ => ⟨rfl, fun j f e => by simp [Items.get, e]⟩) (fun x g => by simp) ?_
  · simpa [Items.len] using this
  · intro h' A' f' g'
    simp [bi_tupL g', tk3, idx_loc A'.M.m_]
    rw [set_loc (j := i) A'.M.o_ (by
      unfold ixN
      rw [if_pos (by omega), if_pos (by simp; omega)]; simp)]
    simp
    have ne := A'.M.ne
    have np := A'.ne
    have f2 : FrS [mo] h' (h'.set mo (.lst ((O1.map Ob.v).set i (.tup [.str x.kind, x.word.v, .tup (fs'.map F.v)])))) := FrS.set _ _ (by simp)
    refine H _ ⟨⟨f2.get A'.M.m_ (by simp [ne.2.1]), f2.get A'.M.y_ (by simp [ne.2.2.2.1]), ?_, f2.get A'.M.r_ (by simp [Ne.symm ne.2.2.2.2.2]), A'.M.nd⟩, f2.get A'.p_ (by simp [np.2.2.1])⟩ (f'.trans f2 (fun z hz => .inl (by simp at hz; simp [hz])))
    rw [List.getElem?_set_self (get_lt A'.M.o_), List.map_set]; rfl
end
/-- what the law's minor keeps -/
structure Ln (h0 h : MH) (m my mo mr p rl D : Nat) (Y O : List Ob) (R : List Int) (n0 : Nat) (mv : List Nat) (fs' : List F) : Prop where
  A : MM h m my mo mr p Y O R n0 mv
  fr : FrS [mo] h0 h
  lp : h0.length ≤ p
  D_ : h[D]? = some (.lst (fs'.map F.v))
  lD : h0.length ≤ D ∧ D ≠ p
inductive LFI (h0 : MH) (m my mo mr p D E : Nat) (Y : List Ob) (R : List Int) (n0 : Nat) (is : List Nat) (O2 : List Ob) (mv2 : List Nat) (fs' : List F) : Nat → Rho → MH → Prop
  | mk {i : Nat} {O : List Ob} {mv : List Nat} {h : MH} {a4 a5 a6 : Option Val} : Ln h0 h m my mo mr p 0 D Y O R n0 mv fs' → Adjs Y n0 O mv (is.drop i) O2 mv2 → h[E]? = some (.lst (is.map fun i : Nat => Val.int i)) →
      LFI h0 m my mo mr p D E Y R n0 is O2 mv2 fs' i [some (.loc D), some (.loc m), some (.loc p), some (.int n0), a4, a5, a6] h
inductive LWI (h0 : MH) (m my mo mr p D : Nat) (Y : List Ob) (R : List Int) (n0 : Nat) (O' : List Ob) (mv' : List Nat) (fs' : List F) : Nat → Rho → MH → Prop
  | mk {i k : Nat} {O : List Ob} {mv : List Nat} {h : MH} {scan : Nat} {a4 a5 a6 : Option Val} : Ln h0 h m my mo mr p 0 D Y O R n0 mv fs' → Scn Y n0 k O mv scan O' mv' → k + i ≤ 3000 →
      LWI h0 m my mo mr p D Y R n0 O' mv' fs' i [some (.loc D), some (.loc m), some (.loc p), some (.int scan), a4, a5, a6] h
theorem lminor_ok {Y O O' : List Ob} {R : List Int} {h : MH} {m my mo mr rl : Nat} {k : Nat} {fs fs' : List F} {P : Val → MH → Prop} (M : Min Y O R fs fs' O') (S : MD h m my mo mr Y O R) (gr : h[rl]? = some (.lst (fs.map F.v))) (lf : fs.length ≤ 100) (zr : rl ≠ mo)
    (H : ∀ h' D my' mr', MD h' m my' mo mr' [] O' [] → FrS [m, mo] h h' → h.length ≤ my' → h.length ≤ mr' → h.length ≤ D → h'[D]? = some (.lst (fs'.map F.v)) → P (.loc D) h') :
    Ok (callK ft (k + 3) i__law_minor [.loc rl, .loc m] h) P := by
  obtain ⟨O1, mv1, is, O2, mv2, mv3, kk, d1, eis, d2, d3, hkk, lR⟩ := M.ex
  have ne := S.ne
  have len1 := d1.len
  have lrl := get_lt gr
  have lmo := get_lt S.o_
  apply Ok_call (F := ⟨2, 7, b__law_minor⟩) rfl rfl (by decide)
  simp [b__law_minor]
  have S1 : MD (h ++ [MO.dct []]) m my mo mr Y O R := S.frN (S := []) (FrS.app [] _ _) (by simp)
  have A1 : MM (h ++ [MO.dct []]) m my mo mr h.length Y O R O.length [] := ⟨S1, by simp [pdl]⟩
  have gr1 : (h ++ [MO.dct []])[rl]? = some (.lst (fs.map F.v)) := get_app gr
  simp [idx_loc S1.m_, bi_lenL S1.o_]
  rw [itR_loc gr1]
  have := moves_ok (k := k + 1) (fs := fs) (ρ := [some (.loc rl), some (.loc m), some (.loc h.length), some (.int O.length), none, none, none]) (it := .live rl fs.length)
    (P := fun a h_1 => OkS (evS (callK ft (k + 2)) (.seq (.for_ (.nm 5) (.blt .sorted (.cons (.idx (.var 1) (.cst (.int 2))) .nil)) w__law_minor_1) r__law_minor_4) [some a, some (.loc m), some (.loc h.length), some (.int O.length), none, none, none] h_1) (fun _ h => P .non h) P (fun _ _ => False) (fun _ _ => False))
    d1 A1 (by omega) rfl (fun h' q => by
      have e : h'[rl]? = some (.lst (fs.map F.v)) := by rw [q rl (by simp; omega) (by simp; omega)]; exact gr1
      exact ⟨by simp [Items.fin, seqL, e], fun j f ef => by simp [Items.get, seqL, e, ef]⟩) (fun x g => by simp) ?_
  · simpa [Items.len] using this
  · intro h2 A' f' g'
    have lh : (h ++ [MO.dct []]).length = h.length + 1 := by simp
    rw [lh] at g'
    have lis : (sortI R).map Val.int = is.map fun i : Nat => Val.int i := by rw [eis, List.map_map]; rfl
    simp [idx_loc A'.M.m_, bi_sortL A'.M.r_]
    rw [lis]
    have gE : (h2 ++ [MO.lst (is.map fun i : Nat => Val.int i)])[h2.length]? = some (.lst (is.map fun i : Nat => Val.int i)) := by simp
    rw [itR_loc gE]
    simp only [Ok_ok]
    show OkS (forL (.nm 5) _ (.live h2.length (is.map fun i : Nat => Val.int i).length) (is.map fun i : Nat => Val.int i).length 0 _ _) _ _ _ _
    have l2 := f'.1
    simp at l2
    have fo : FrS [mo] h h2 := ((FrS.app [mo] h [MO.dct []]).trans f' (fun x hx => by
      simp at hx
      rcases hx with rfl | rfl
      · exact .inl (by simp)
      · exact .inr (Nat.le_refl _)))
    have B0 : Ln h (h2 ++ [MO.lst (is.map fun i : Nat => Val.int i)]) m my mo mr h.length 0 (h.length + 1) Y O1 R O.length mv1 fs' :=
      ⟨A'.fr (S := []) (FrS.app _ _ _) (by simp), fo.trans (FrS.app [] _ _) (by simp), Nat.le_refl _, get_app g', by omega, by omega⟩
    have step : ∀ {h3 : MH} {Oa Ob' : List Ob} {ma mb : List Nat} {i : Nat} {Q : Val → MH → Prop}, Ln h h3 m my mo mr h.length 0 (h.length + 1) Y Oa R O.length ma fs' → Adj Y O.length Oa ma i Ob' mb →
        (∀ h', Ln h h' m my mo mr h.length 0 (h.length + 1) Y Ob' R O.length mb fs' → FrS [mo, h.length] h3 h' → Q .non h') → Ok (callK ft (k + 2) i__law_adjust [.int i, .loc m, .loc h.length] h3) Q := by
      intro h3 Oa Ob' ma mb i Q B d hQ
      refine ladjust_ok d B.A ?_
      intro h4 A4 f4
      refine hQ h4 ⟨A4, B.fr.trans f4 (fun x hx => ?_), B.lp, f4.get B.D_ (by simp; omega), B.lD⟩ f4
      simp at hx
      rcases hx with rfl | rfl
      · exact .inl (by simp)
      · exact .inr (Nat.le_refl _)
    refine forLv_ok (LFI h m my mo mr h.length (h.length + 1) h2.length Y R O.length is O2 mv2 fs') ?_ ?_ ?_ (.mk (O := O1) (mv := mv1) B0 (by simpa using d2) gE)
    · rintro i ρ h3 ⟨B, d, g⟩
      exact g
    · rintro i ρ h3 x ex ⟨B, d, g⟩
      rw [List.getElem?_map] at ex
      cases ea : is[i]? with
      | none => rw [ea] at ex; cases ex
      | some a =>
      rw [ea] at ex
      cases ex
      obtain ⟨O4, mv4, d4, d5⟩ := d.at ea
      simp [w__law_minor_1]
      refine step B d4 ?_
      intro h4 B4 f4
      refine .mk (O := O4) (mv := mv4) B4 d5 (f4.get g ?_)
      simp; omega
    · rintro ρ h3 ⟨B, d, g⟩
      have e9 : is.drop (List.map (fun i : Nat => Val.int i) is).length = [] := by simp
      rw [e9] at d
      cases d
      rename_i a4 a5 a6
      simp [r__law_minor_4]
      have er : rng1R (.int 3000) h3 = .ok (.rng 0 3000) h3 := by rw [rng1R_ok (by omega)]; rfl
      rw [er]
      simp only [Ok_ok]
      refine forR_ok (LWI h m my mo mr h.length (h.length + 1) Y R O.length O' mv3 fs') ?_ ?_ (.mk (i := 0) (O := O2) (mv := mv2) B d3 (by omega))
      · rintro i ρ h4 li ⟨B, d, lk⟩
        rename_i k2 Oa ma scan b4 b5 b6
        simp [w__law_minor_2, idx_loc B.A.M.m_, bi_lenL B.A.M.o_]
        constructor
        · intro c
          cases d with
          | nil => omega
          | @cons k3 _ _ _ Ob' mb _ _ lt d4 d5 =>
          refine step B d4 ?_
          intro h5 B5 f5
          exact .mk (O := Ob') (mv := mb) B5 d5 (by omega)
        · intro c
          cases d with
          | cons lt _ _ => omega
          | nil => exact .mk B .nil (by omega)
      · rintro ρ h4 ⟨B, d, lk⟩
        rename_i k2 Oa ma scan b4 b5 b6
        have k0 : k2 = 0 := by omega
        subst k0
        cases d
        have ne4 := B.A.M.ne
        have lh4 := B.fr.1
        have lm4 := get_lt B.A.M.m_
        have lm := get_lt S.m_
        simp [r__law_minor_3, lt0]
        rw [set_loc (j := 0) (get_app B.A.M.m_) rfl]
        simp
        generalize hg : (h4 ++ [MO.lst []]).set m (MO.lst [Val.loc h4.length, Val.loc mo, Val.loc mr]) = g
        have g0 : g[m]? = some (.lst [Val.loc h4.length, Val.loc mo, Val.loc mr]) := by rw [← hg]; exact List.getElem?_set_self (by simp; omega)
        have lg : g.length = h4.length + 1 := by rw [← hg]; simp
        have fg : FrS [m] h4 g := by
          rw [← hg]
          exact (FrS.app [m] h4 [MO.lst []]).trans (FrS.set _ _ (by simp)) (fun x hx => .inl hx)
        have gy : g[h4.length]? = some (.lst []) := by
          rw [← hg, List.getElem?_set_ne (by omega)]; simp
        rw [set_loc (j := 2) (get_app g0) rfl]
        simp
        generalize hk : (g ++ [MO.lst []]).set m (MO.lst [Val.loc h4.length, Val.loc mo, Val.loc (h4.length + 1)]) = g2
        have fk : FrS [m] g g2 := by
          rw [← hk]
          exact (FrS.app [m] g [MO.lst []]).trans (FrS.set _ _ (by simp)) (fun x hx => .inl hx)
        have k0 : g2[m]? = some (.lst [Val.loc h4.length, Val.loc mo, Val.loc (h4.length + 1)]) := by rw [← hk]; exact List.getElem?_set_self (by simp; omega)
        have kr : g2[h4.length + 1]? = some (.lst []) := by
          rw [← hk, List.getElem?_set_ne (by omega), ← lg]; simp
        refine H g2 (h.length + 1) h4.length (h4.length + 1) ⟨k0, fk.get gy (by simp; omega), fk.get (fg.get B.A.M.o_ (by simp; omega)) (by simp; omega), kr, ?_⟩ ?_ (by omega) (by omega) (by omega) (fk.get (fg.get B.D_ (by simp; omega)) (by simp; omega))
        · simp; omega
        · exact ((B.fr.mono (by simp)).trans fg (fun x hx => .inl (by simp at hx; simp [hx]))).trans fk (fun x hx => .inl (by simp at hx; simp [hx]))
end Gu
end

section
set_option linter.all false
set_option Elab.async false
namespace Gu
open PySem L2
/-! k56: the law's model: reached, placed, major, store -/
def aV (a : Int) : Val := (F.at a).v
theorem aV_eqb {a b : Int} : Val.eqb (aV b) (aV a) = decide (b = a) := by
  show ((([97, 116] : List Nat) == [97, 116]) && ((b == a) && true)) = _
  by_cases c : b = a
  · subst c; simp
  · have : (b == a) = false := by simpa using c
    simp [this, c]
theorem aV_flat {a : Int} : Val.flat (aV a) = true ∧ Val.depth (aV a) = 1 := ⟨rfl, rfl⟩
theorem aVs_flat : ∀ l : List Int, Val.flats (l.map aV) = true ∧ Val.depths (l.map aV) ≤ 1
  | [] => ⟨rfl, Nat.zero_le _⟩
  | a :: r => by
    have ih := aVs_flat r
    refine ⟨by show (Val.flat (aV a) && Val.flats (r.map aV)) = true; rw [ih.1]; rfl, ?_⟩
    show max (Val.depth (aV a)) (Val.depths (r.map aV)) ≤ 1
    have := aV_flat (a := a)
    omega
theorem aV_any {a : Int} : ∀ l : List Int, ((l.map aV).any fun z => Val.eqb z (aV a)) = decide (a ∈ l)
  | [] => rfl
  | b :: r => by
    rw [List.map_cons, List.any_cons, aV_any r, aV_eqb]
    by_cases c : b = a
    · subst c; simp
    · have c2 : ¬ a = b := fun e => c e.symm
      simp [c, c2]
theorem cmp_nin {h : MH} {fd : Nat} {a : Int} {l : List Int} (g : h[fd]? = some (.lst (l.map aV))) : cmpR .NotIn (aV a) (.loc fd) h = .ok (.bl (!decide (a ∈ l))) h := by
  have d : deepOk (aV a) (l.map aV) = true := by
    have h1 := aVs_flat l
    have h2 := aV_flat (a := a)
    unfold deepOk
    rw [h1.1, h2.1]
    have : Val.depth (aV a) ≤ 150 := by rw [h2.2]; omega
    have : Val.depths (l.map aV) ≤ 150 := by omega
    simp [*]
  have na : (aV a).atom = false := rfl
  simp only [cmpR, cmpV, inV?, seqL, g, na, d, aV_any]
  simp [R.ofO]
theorem ats_cons {f : F} {r : List F} : ats (f :: r) = (if isAt f then ats [f] else []) ++ ats r := by cases f <;> rfl
theorem take_at {fs : List F} {j : Nat} {f : F} (e : fs[j]? = some f) : ats (fs.take (j + 1)) = ats (fs.take j) ++ ats [f] := by
  have : fs.take (j + 1) = fs.take j ++ [f] := by rw [List.take_add_one, e]; rfl
  rw [this, ats_app]
/-- the addresses among some values -/
theorem atsel_ok {h : MH} {k s : Nat} {fs : List F} {ρ : Rho} {it : Items} {P : Val → MH → Prop} (lf : fs.length ≤ 1000) (ls : s < ρ.length)
    (il : it.len = fs.length) (ig : ∀ h', (∀ i, i < h.length → h'[i]? = h[i]?) → it.fin h' = true ∧ ∀ (j : Nat) f, fs[j]? = some f → it.get h' j = some f.v)
    (H : ∀ h', FrS [] h h' → h'[h.length]? = some (.lst ((ats fs).map aV)) → P (.loc h.length) h') :
    Ok (lcLoop h.length (.nm s) (wipeR ρ [s]) (ev (callK ft k) (.cons (.cmp .Eq (.idx (.var s) (.cst (.int 0))) (.cst (.str [97, 116]))) .nil)).t (ev (callK ft k) (.var s)).v it it.len 0 (h ++ [.lst []])) P := by
  refine lcLoop_ok (it := it) (fun j h' => FrS [] h h' ∧ h'[h.length]? = some (.lst ((ats (fs.take j)).map aV))) ?_ ?_ _ 0 _ (by simp) ⟨FrS.app _ _ _, by simp⟩
  · rintro j h' lj ⟨f', g'⟩
    have lj : j < fs.length := by rw [← il]; exact lj
    have ef : fs[j]? = some fs[j] := List.getElem?_eq_getElem lj
    have ta := take_at ef
    have la := ats_len (fs := fs.take j)
    simp at la
    refine ⟨(fs[j]).v, _, (ig h' (fun i li => f'.2 i li (by simp))).2 j _ ef, rfl, ?_⟩
    have ev1 : ∀ {v : Val}, (((wipeR ρ [s]).set s (some v))[s]?).join = some v := by intro v; simp [wipeR, ls]
    cases c : fs[j] with
    | int i =>
      simp [ev1, F.v, wipeR, ls]
      rw [c] at ta
      simp at ta
      rw [ta]
      exact ⟨f', g'⟩
    | tag i =>
      simp [ev1, F.v, wipeR, ls]
      rw [c] at ta
      simp at ta
      rw [ta]
      exact ⟨f', g'⟩
    | «at» a =>
      simp [ev1, F.v, wipeR, ls]
      refine ⟨_, g', by simp [sizeLine]; omega, f'.trans (FrS.set (S := [h.length]) _ _ (by simp)) (fun x hx => .inr (by simp at hx; omega)), ?_⟩
      rw [List.getElem?_set_self (get_lt g'), ta, c]
      simp [aV, F.v]
  · rintro h' ⟨f', g'⟩
    refine ⟨(ig h' (fun i li => f'.2 i li (by simp))).1, ?_⟩
    rw [il, List.take_length] at g'
    exact H h' f' g'
theorem popv_ok {h : MH} {n : Nat} {xs : List Val} {x : Val} (g : h[n]? = some (.lst (xs ++ [x]))) : mtV .pop (.loc n) [] h = .ok x (h.set n (.lst xs)) := by simp [mtV, g]
theorem extL_ok {h : MH} {n m : Nat} {xs ys : List Val} (g : h[n]? = some (.lst xs)) (g2 : h[m]? = some (.lst ys)) (l : xs.length + ys.length ≤ sizeLine) : mtV .extend (.loc n) [.loc m] h = .ok .non (h.set n (.lst (xs ++ ys))) := by simp [mtV, g, g2, l]
inductive LRI (h0 : MH) (m my mo mr Fd L rl : Nat) (Y O : List Ob) (R : List Int) (res : List Int) : Nat → Rho → MH → Prop
  | mk {i k : Nat} {found left : List Int} {h : MH} {a4 a5 a6 a7 : Option Val} : Rch Y O k found left res → k + i < 3000 → found.length ≤ i → left.length ≤ 1000 + 10 * i → h[Fd]? = some (.lst (found.map aV)) → h[L]? = some (.lst (left.map aV)) → MD h m my mo mr Y O R → FrS [] h0 h →
      LRI h0 m my mo mr Fd L rl Y O R res i [some (.loc rl), some (.loc m), some (.loc Fd), some (.loc L), a4, a5, a6, a7] h
theorem lreached_ok {Y O : List Ob} {R : List Int} {h : MH} {m my mo mr rl n k : Nat} {fs : List F} {res : List Int} {P : Val → MH → Prop} (d : Rch Y O n [] (ats fs) res) (ln : n < 3000) (M : MD h m my mo mr Y O R) (h4 : ∀ o, o ∈ Y ∨ o ∈ O → o.fs.length ≤ 4) (gr : h[rl]? = some (.lst (fs.map F.v))) (lf : fs.length ≤ 100)
    (H : ∀ h' D, FrS [] h h' → h.length ≤ D → h'[D]? = some (.lst (res.map aV)) → P (.loc D) h') :
    Ok (callK ft (k + 2) i__law_reached [.loc rl, .loc m] h) P := by
  apply Ok_call (F := ⟨2, 8, b__law_reached⟩) rfl rfl (by decide)
  have lrl := get_lt gr
  simp [b__law_reached, lt0]
  have gr1 : (h ++ [MO.lst []])[rl]? = some (.lst (fs.map F.v)) := get_app gr
  rw [itR_loc gr1]
  have er : ∀ {g : MH}, rng1R (.int 3000) g = .ok (.rng 0 3000) g := by intro g; rw [rng1R_ok (by omega)]; rfl
  have := atsel_ok (k := k + 1) (s := 4) (h := h ++ [MO.lst []]) (fs := fs) (ρ := [some (.loc rl), some (.loc m), some (.loc h.length), none, none, none, none, none]) (it := .live rl fs.length)
    (P := fun a h_1 => OkS (evS (callK ft (k + 1)) (.seq (.for_ (.nm 5) (.rng1 (.cst (.int 3000))) w__law_reached_2) r__law_reached_3) [some (.loc rl), some (.loc m), some (.loc h.length), some a, none, none, none, none] h_1) (fun _ h => P .non h) P (fun _ _ => False) (fun _ _ => False))
    (by omega) (by simp) rfl (fun h' q => by
      have e : h'[rl]? = some (.lst (fs.map F.v)) := by rw [q rl (by simp; omega)]; exact gr1
      exact ⟨by simp [Items.fin, seqL, e], fun j f ef => by simp [Items.get, seqL, e, ef]⟩) ?_
  · simpa [Items.len] using this
  · intro h2 f2 g2
    simp at g2
    simp [er]
    have f02 : FrS [] h h2 := (FrS.app [] h [MO.lst []]).trans f2 (by simp)
    have gF : h2[h.length]? = some (.lst (([] : List Int).map aV)) := f2.get (by simp) (by simp)
    have M2 : MD h2 m my mo mr Y O R := M.fr f02 (by simp) (by simp) (by simp) (by simp)
    have la := ats_len (fs := fs)
    refine forR_ok (LRI h m my mo mr h.length (h.length + 1) rl Y O R res) ?_ ?_ (.mk (i := 0) d (by omega) (by simp) (by omega) gF (by simpa using g2) M2 f02)
    · rintro i ρ h3 li ⟨d, lk, lfd, llf, gF, gL, M3, f3⟩
      rename_i kk found left a4 a5 a6 a7
      simp [w__law_reached_2, bi_lenL gL]
      have q : ∀ {i : Nat} {ob : MO}, h[i]? = some ob → i ∉ [h.length + 1] := fun e hm => by have := get_lt e; simp at hm; omega
      have q4 : ∀ {i : Nat} {ob : MO}, h[i]? = some ob → i ∉ [h.length] := fun e hm => by have := get_lt e; simp at hm; omega
      have popd : ∀ (l : List Int) (a : Int), left = l ++ [a] → FrS [] h (h3.set (h.length + 1) (.lst (l.map aV))) ∧ MD (h3.set (h.length + 1) (.lst (l.map aV))) m my mo mr Y O R ∧ (h3.set (h.length + 1) (MO.lst (l.map aV)))[h.length]? = some (.lst (found.map aV)) ∧ (h3.set (h.length + 1) (MO.lst (l.map aV)))[h.length + 1]? = some (.lst (l.map aV)) ∧ mtV .pop (.loc (h.length + 1)) [] h3 = .ok (aV a) (h3.set (h.length + 1) (.lst (l.map aV))) := by
        rintro l a rfl
        simp only [List.map_append, List.map_cons, List.map_nil] at gL
        have lL := get_lt gL
        have f4 : FrS [h.length + 1] h3 (h3.set (h.length + 1) (.lst (l.map aV))) := FrS.set _ _ (by simp)
        exact ⟨f3.trans f4 (fun x hx => .inr (by simp at hx; omega)), M3.fr f4 (q M.m_) (q M.y_) (q M.o_) (q M.r_), f4.get gF (by simp), List.getElem?_set_self lL, popv_ok gL⟩
      cases d with
      | done =>
        simp
        exact H h3 h.length f3 (Nat.le_refl _) gF
      | @had k2 _ l a _ hm d2 =>
        obtain ⟨f5, M5, gF5, gL5, ep⟩ := popd l a rfl
        have nz : ¬ ((l.length : Int) + 1 = 0) := by omega
        simp [nz, r__law_reached_1, (mtT_loc gL).2.1]
        rw [ep]
        simp [cmp_nin gF5, hm]
        simp at llf
        exact .mk d2 (by omega) (by omega) (by omega) gF5 gL5 M5 f5
      | @new k2 _ l a x _ hm eo d2 =>
        obtain ⟨f5, M5, gF5, gL5, ep⟩ := popd l a rfl
        have nz : ¬ ((l.length : Int) + 1 = 0) := by omega
        simp [nz, r__law_reached_1, (mtT_loc gL).2.1]
        rw [ep]
        simp [cmp_nin gF5, hm, (mtT_loc gF5).1]
        rw [mt_append gF5 (by simp [sizeLine]; omega)]
        have f6 : FrS [h.length] (h3.set (h.length + 1) (MO.lst (l.map aV))) ((h3.set (h.length + 1) (MO.lst (l.map aV))).set h.length (.lst (found.map aV ++ [aV a]))) := FrS.set _ _ (by simp)
        have M6 := M5.fr f6 (q4 M.m_) (q4 M.y_) (q4 M.o_) (q4 M.r_)
        have gF6 : ((h3.set (h.length + 1) (MO.lst (l.map aV))).set h.length (.lst (found.map aV ++ [aV a])))[h.length]? = some (.lst ((found ++ [a]).map aV)) := by rw [List.getElem?_set_self (get_lt gF5)]; simp
        have gL6 := f6.get gL5 (by simp)
        have f06 : FrS [] h ((h3.set (h.length + 1) (MO.lst (l.map aV))).set h.length (.lst (found.map aV ++ [aV a]))) := f5.trans f6 (fun x hx => .inr (by simp at hx; omega))
        generalize ((h3.set (h.length + 1) (MO.lst (l.map aV))).set h.length (.lst (found.map aV ++ [aV a]))) = h6 at *
        simp [(mtT_loc gL6).2.2]
        refine object_ok M6 eo ?_
        have e2 : ∀ {g : MH}, idxR x.v (.int 2) g = .ok (.tup (x.fs.map F.v)) g := by intro g; simp [Ob.v]
        simp [e2, it_tup]
        have lx := h4 x (obAt_mem eo)
        have := atsel_ok (k := k + 1) (s := 7) (h := h6) (fs := x.fs) (ρ := [some (.loc rl), some (.loc m), some (.loc h.length), some (.loc (h.length + 1)), a4, some (.int i), some (aV a), a7]) (it := .vals (x.fs.map F.v))
          (P := fun v h_1 => Ok (mtV MI.extend (Val.loc (h.length + 1)) [v] h_1) fun _ h_2 => LRI h m my mo mr h.length (h.length + 1) rl Y O R res (i + 1) [some (.loc rl), some (.loc m), some (.loc h.length), some (.loc (h.length + 1)), a4, some (.int i), some (aV a), a7] h_2)
          (by omega) (by simp) (by simp [Items.len]) (fun h' _ => ⟨rfl, fun j f ef => by simp [Items.get, ef]⟩) ?_
        · simpa [Items.len] using this
        · intro h7 f7 g7
          have gL7 := f7.get gL6 (by simp)
          have lax := ats_len (fs := x.fs)
          simp at llf
          rw [extL_ok gL7 g7 (by simp [sizeLine]; omega)]
          refine Ok_ok.2 ?_
          have f8 : FrS [h.length + 1] h7 (h7.set (h.length + 1) (.lst (l.map aV ++ (ats x.fs).map aV))) := FrS.set _ _ (by simp)
          rw [← List.map_append] at f8 ⊢
          exact .mk (found := found ++ [a]) (left := l ++ ats x.fs) d2 (by omega) (by simp; omega) (by simp; omega) (f8.get (f7.get gF6 (by simp)) (by simp)) (List.getElem?_set_self (get_lt gL7)) ((M6.fr f7 (by simp) (by simp) (by simp) (by simp)).fr f8 (q M.m_) (q M.y_) (q M.o_) (q M.r_)) ((f06.trans f7 (by simp)).trans f8 (fun x hx => .inr (by simp at hx; omega)))
    · rintro ρ h3 ⟨d, lk, _⟩
      omega
theorem lplaced_ok {h : MH} {K k : Nat} {kept : List Int} {f : F} {P : Val → MH → Prop} (g : h[K]? = some (.lst (kept.map Val.int))) (hf : In1 kept f) (H : P (plc kept f).v h) : Ok (callK ft (k + 1) i__law_placed [f.v, .loc K] h) P := by
  apply Ok_call (F := ⟨2, 2, b__law_placed⟩) rfl rfl (by decide)
  cases f with
  | int i => simpa [b__law_placed, F.v, plc] using H
  | tag i => simpa [b__law_placed, F.v, plc] using H
  | «at» b =>
    have m : b ∈ kept := hf
    simp [b__law_placed, F.v, r__law_placed_1, mtT_lidx g, mt_lidx g m, tk2]
    simpa [plc, F.v] using H
theorem lplaceds_ok {h : MH} {K k s : Nat} {kept : List Int} {fs : List F} {ρ : Rho} {it : Items} {P : Val → MH → Prop} (g : h[K]? = some (.lst (kept.map Val.int))) (hf : ∀ f ∈ fs, In1 kept f) (lf : fs.length ≤ 1000)
    (il : it.len = fs.length) (ig : ∀ h', (∀ i, i < h.length → h'[i]? = h[i]?) → it.fin h' = true ∧ ∀ (j : Nat) f, fs[j]? = some f → it.get h' j = some f.v)
    (hc : ∀ (x : Val) (g : MH), (ev (callK ft (k + 1)) (.cons (.var s) (.cons (.var 2) .nil))).a ((ρ.set s none).set s (some x)) g = .ok [x, .loc K] g)
    (H : ∀ h', FrS [] h h' → h'[h.length]? = some (.lst ((fs.map (plc kept)).map F.v)) → P (.loc h.length) h') :
    Ok (lcLoop h.length (.nm s) (wipeR ρ [s]) (ev (callK ft (k + 1)) .nil).t (ev (callK ft (k + 1)) (.call i__law_placed (.cons (.var s) (.cons (.var 2) .nil)))).v it it.len 0 (h ++ [.lst []])) P := by
  refine lcLoop_ok (it := it) (fun j h' => FrS [] h h' ∧ h'[h.length]? = some (.lst (((fs.take j).map (plc kept)).map F.v))) ?_ ?_ _ 0 _ (by simp) ⟨FrS.app _ _ _, by simp⟩
  · rintro j h' lj ⟨f', g'⟩
    have lj : j < fs.length := by rw [← il]; exact lj
    have ef : fs[j]? = some fs[j] := List.getElem?_eq_getElem lj
    refine ⟨(fs[j]).v, _, (ig h' (fun i li => f'.2 i li (by simp))).2 j _ ef, rfl, ?_⟩
    refine Ok_ok.2 ⟨fun _ => ?_, fun z => by cases z⟩
    rw [v_call]
    show Ok (((ev (callK ft (k + 1)) (.cons (.var s) (.cons (.var 2) .nil))).a ((ρ.set s none).set s (some (fs[j]).v)) h').bind _) _
    rw [hc]
    show Ok (callK ft (k + 1) i__law_placed [(fs[j]).v, .loc K] h') _
    refine lplaced_ok (f'.get g (by simp)) (hf _ (List.getElem_mem lj)) ?_
    refine ⟨_, g', by simp [sizeLine]; omega, f'.trans (FrS.set (S := [h.length]) _ _ (by simp)) (fun x hx => .inr (by simp at hx; omega)), ?_⟩
    rw [List.getElem?_set_self (get_lt g'), List.take_add_one, ef]
    simp only [Option.toList_some, List.map_append, List.map_cons, List.map_nil]
  · rintro h' ⟨f', g'⟩
    refine ⟨(ig h' (fun i li => f'.2 i li (by simp))).1, ?_⟩
    rw [il, List.take_length] at g'
    exact H h' f' g'
end Gu
end

section
set_option linter.all false
set_option Elab.async false
namespace Gu
open PySem L2
/-! k56: the law's model: major, store; what is drawn -/
/-- a list of what is told of each item -/
theorem lmap_ok {α : Type} {h : MH} {D k s : Nat} {ps : List α} {ρ : Rho} {e : E} {q r : α → Val} {P : Val → MH → Prop} (g : h[D]? = some (.lst (ps.map q))) (lf : ps.length ≤ 1000)
    (hc : ∀ (p : α) (g : MH), (ev (callK ft k) e).v ((ρ.set s none).set s (some (q p))) g = .ok (r p) g)
    (H : ∀ h', FrS [] h h' → h'[h.length]? = some (.lst (ps.map r)) → P (.loc h.length) h') :
    Ok (lcLoop h.length (.nm s) (wipeR ρ [s]) (ev (callK ft k) .nil).t (ev (callK ft k) e).v (.live D ps.length) ps.length 0 (h ++ [.lst []])) P := by
  have lp := get_lt g
  refine lcLoop_ok (it := .live D ps.length) (fun j h' => FrS [] h h' ∧ h'[h.length]? = some (.lst ((ps.take j).map r))) ?_ ?_ _ 0 _ (by simp [Items.len]) ?_
  · rintro j h' lj ⟨f', g'⟩
    have lj : j < ps.length := lj
    have gD := f'.get g (by simp)
    refine ⟨q ps[j], _, by simp [Items.get, seqL, gD, lj], rfl, ?_⟩
    refine Ok_ok.2 ⟨fun _ => ?_, fun z => by cases z⟩
    have e1 := hc ps[j] h'
    show Ok ((ev (callK ft k) e).v ((ρ.set s none).set s (some (q ps[j]))) h') _
    rw [e1]
    refine Ok_ok.2 ⟨_, g', by simp [sizeLine]; omega, f'.trans (FrS.set (S := [h.length]) _ _ (by simp)) (fun x hx => .inr (by simp at hx; omega)), ?_⟩
    rw [List.getElem?_set_self (get_lt g'), List.take_add_one, List.getElem?_eq_getElem lj]
    simp only [Option.toList_some, List.map_append, List.map_cons, List.map_nil]
  · rintro h' ⟨f', g'⟩
    have gD := f'.get g (by simp)
    refine ⟨by simp [Items.fin, Items.len, seqL, gD], ?_⟩
    have e : (Items.live D ps.length).len = ps.length := rfl
    rw [e, List.take_length] at g'
    exact H h' f' g'
  · exact ⟨FrS.app _ _ _, by simp⟩
structure Lj (h0 h : MH) (m my mo mr K ob D1 : Nat) (O : List Ob) (kept : List Int) (O' : List Ob) (fs1 : List F) (i : Nat) : Prop where
  S : MD h m my mo mr [] O []
  K_ : h[K]? = some (.lst (kept.map Val.int))
  ob_ : h[ob]? = some (.lst ((O'.take i).map Ob.v))
  D_ : h[D1]? = some (.lst (fs1.map F.v))
  fr : FrS [] h0 h
  d : Kpt O kept (kept.drop i) (O'.drop i)
inductive LJI (h0 : MH) (m my mo mr K ob D1 : Nat) (O : List Ob) (kept : List Int) (O' : List Ob) (fs1 : List F) : Nat → Rho → MH → Prop
  | mk {i : Nat} {h : MH} {a3 a5 a6 a7 a8 : Option Val} : Lj h0 h m my mo mr K ob D1 O kept O' fs1 i → LJI h0 m my mo mr K ob D1 O kept O' fs1 i [some (.loc D1), some (.loc m), some (.loc K), a3, some (.loc ob), a5, a6, a7, a8] h
theorem lmajor_ok {Y O O' : List Ob} {R : List Int} {h : MH} {m my mo mr rl : Nat} {k : Nat} {fs fs' : List F} {P : Val → MH → Prop} (M : Maj Y O R fs fs' O') (S0 : MD h m my mo mr Y O R) (gr : h[rl]? = some (.lst (fs.map F.v))) (lf : fs.length ≤ 100) (zr : rl ≠ mo)
    (H : ∀ h' D my' mo' mr', MD h' m my' mo' mr' [] O' [] → FrS [m, mo] h h' → h.length ≤ my' → h.length ≤ mo' → h.length ≤ mr' → h.length ≤ D → h'[D]? = some (.lst (fs'.map F.v)) → P (.loc D) h') :
    Ok (callK ft (k + 4) i__law_major [.loc rl, .loc m] h) P := by
  obtain ⟨fs1, Oa, nn, mm, res, Mn, d1, lnn, d2, lmm, lres, nd, dk, hin, efs, lfs, l4⟩ := M.ex
  have len1 : fs1.length = fs.length := by obtain ⟨_, _, _, _, _, _, _, q, _⟩ := Mn.ex; exact q.len
  apply Ok_call (F := ⟨2, 9, b__law_major⟩) rfl rfl (by decide)
  simp [b__law_major]
  refine lminor_ok Mn S0 gr lf zr ?_
  intro h1 D1 my1 mr1 S1 f1 ly lr lD g1
  refine lreached_ok (k := k + 1) d1 lnn S1 (fun o ho => by
    rcases ho with ho | ho
    · simp at ho
    · exact l4 o ho) g1 (by omega) ?_
  intro h2 D2 f2 lD2 g2
  have S2 : MD h2 m my1 mo mr1 [] Oa [] := S1.fr f2 (by simp) (by simp) (by simp) (by simp)
  have gD2 := f2.get g1 (by simp)
  rw [itR_loc g2]
  have := lmap_ok (h := h2) (k := k + 3) (s := 3) (ps := res) (q := aV) (r := fun a => .int a) (e := .idx (.var 3) (.cst (.int 1))) (ρ := [some (.loc D1), some (.loc m), none, none, none, none, none, none, none])
    (P := fun a h_1 => Ok (biV BI.sorted [a] h_1) fun a h_1 => OkS (evS (callK ft (k + 3)) (.seq (.asg (.nt (.nm 4)) (.lst .nil)) (.seq (.for_ (.nm 5) (.var 2) w__law_major_1) r__law_major_2)) [some (.loc D1), some (.loc m), some a, none, none, none, none, none, none] h_1) (fun _ h => P .non h) P (fun _ _ => False) (fun _ _ => False))
    g2 (by omega) (fun p g => by simp [aV, F.v]) ?_
  · simpa [Items.len] using this
  intro h3 f3 g3
  have e3 : res.map (fun a => Val.int a) = res.map Val.int := rfl
  rw [e3] at g3
  simp [bi_sortL g3, lt0]
  have ndk := sortI_nd nd
  have lk : (sortI res).length < 64 := by rw [sortI_len]; exact lres
  have hK : (h3 ++ [MO.lst ((sortI res).map Val.int)])[h3.length]? = some (.lst ((sortI res).map Val.int)) := by simp
  generalize sortI res = kept at *
  have lO' := dk.len
  have S3 : MD h3 m my1 mo mr1 [] Oa [] := S2.fr f3 (by simp) (by simp) (by simp) (by simp)
  generalize hg4 : h3 ++ [MO.lst (kept.map Val.int), MO.lst []] = g4
  have f4 : FrS [] h3 g4 := by rw [← hg4]; exact FrS.app _ _ _
  have gK : g4[h3.length]? = some (.lst (kept.map Val.int)) := by rw [← hg4]; simp
  have gO : g4[h3.length + 1]? = some (.lst []) := by rw [← hg4]; simp
  rw [itR_loc gK]
  simp
  rw [show kept.length = (kept.map Val.int).length by simp]
  have S4 : MD g4 m my1 mo mr1 [] Oa [] := S3.fr f4 (by simp) (by simp) (by simp) (by simp)
  have gD4 := f4.get (f3.get gD2 (by simp)) (by simp)
  have lh4 : h3.length + 2 = g4.length := by rw [← hg4]; simp
  refine forLv_ok (LJI h3 m my1 mo mr1 h3.length (h3.length + 1) D1 Oa kept O' fs1) ?_ ?_ ?_ (.mk ⟨S4, gK, by simpa using gO, gD4, f4, by simpa using dk⟩)
  · rintro i ρ h5 ⟨B⟩
    exact B.K_
  · rintro i ρ h5 x ex ⟨B⟩
    rw [List.getElem?_map] at ex
    cases ea : kept[i]? with
    | none => rw [ea] at ex; cases ex
    | some a =>
    rw [ea] at ex
    cases ex
    obtain ⟨xo, a0, exo, i1, lx, eO', dk2⟩ := B.d.at ea
    have li := (List.getElem?_eq_some_iff.mp ea).1
    have ei : atI (Oa.map Ob.v) a = some xo.v := by
      have := atI_lt (xs := Oa.map Ob.v) (i := a.toNat) (v := xo.v) (by rw [List.getElem?_map, exo]; rfl)
      rwa [Int.toNat_of_nonneg a0] at this
    rename_i a3 a5 a6 a7 a8
    have x0 : ∀ {g : MH}, idxR xo.v (.int 0) g = .ok (.str xo.kind) g := by intro g; simp [Ob.v]
    have x1 : ∀ {g : MH}, idxR xo.v (.int 1) g = .ok xo.word.v g := by intro g; simp [Ob.v]
    have x2 : ∀ {g : MH}, idxR xo.v (.int 2) g = .ok (.tup (xo.fs.map F.v)) g := by intro g; simp [Ob.v]
    simp [w__law_major_1, idx_loc B.S.m_, idx_loc B.S.o_, ei, x0, x1, x2, (mtT_loc B.ob_).1, it_tup]
    have := lplaceds_ok (h := h5) (k := k + 2) (K := h3.length) (s := 7) (kept := kept) (fs := xo.fs) (it := .vals (xo.fs.map F.v)) (ρ := [some (.loc D1), some (.loc m), some (.loc h3.length), a3, some (.loc (h3.length + 1)), some (.int a), some xo.v, a7, a8])
      (P := fun z1 h_1 => Ok (biV BI.tuple [z1] h_1) fun z2 h => Ok (tupR [Val.str xo.kind, xo.word.v, z2] h) fun z3 h => Ok (mtV MI.append (Val.loc (h3.length + 1)) [z3] h) fun z4 h => LJI h3 m my1 mo mr1 h3.length (h3.length + 1) D1 Oa kept O' fs1 (i + 1) [some (.loc D1), some (.loc m), some (.loc h3.length), a3, some (.loc (h3.length + 1)), some (.int a), some xo.v, a7, a8] h)
      B.K_ i1 (by omega) (by simp [Items.len]) (fun h' _ => ⟨rfl, fun j f ef => by simp [Items.get, ef]⟩) (fun x g => by simp) ?_
    · simpa [Items.len] using this
    · intro h6 f6 g6
      have gob := f6.get B.ob_ (by simp)
      simp [bi_tupL g6, tk3]
      rw [mt_append gob (by simp [sizeLine]; omega)]
      refine Ok_ok.2 ?_
      have mkF : ∀ ob, FrS [h3.length + 1] h6 (h6.set (h3.length + 1) ob) := fun ob => FrS.set _ _ (by simp)
      have q3 : ∀ {j : Nat} {ob : MO}, h3[j]? = some ob → j ∉ [h3.length + 1] := fun e hm => by have := get_lt e; simp at hm; omega
      refine .mk ⟨(B.S.fr f6 (by simp) (by simp) (by simp) (by simp)).fr (mkF _) (q3 S3.m_) (q3 S3.y_) (q3 S3.o_) (q3 S3.r_), (mkF _).get (f6.get B.K_ (by simp)) (by simp), ?_, (mkF _).get (f6.get B.D_ (by simp)) (q3 (f3.get gD2 (by simp))), ?_, dk2⟩
      · rw [List.getElem?_set_self (get_lt gob)]
        have e9 : O'.take (i + 1) = O'.take i ++ [{ xo with fs := xo.fs.map (plc kept) }] := by rw [List.take_add_one, eO']; rfl
        rw [e9]
        simp [Ob.v]
      · exact B.fr.trans f6 (by simp) |>.trans (FrS.set (S := [h3.length + 1]) _ _ (by simp)) (fun x hx => .inr (by simp at hx; omega))
  · rintro ρ h4 ⟨B⟩
    rename_i a3 a5 a6 a7 a8
    have gob := B.ob_
    rw [List.length_map, ← lO', List.take_length] at gob
    simp [r__law_major_2]
    have lm := get_lt S0.m_
    have lmo := get_lt S0.o_
    have ne := S0.ne
    have lh1 := f1.1
    have lh2 := f2.1
    have lh3 := f3.1
    rw [set_loc (j := 1) B.S.m_ rfl]
    simp
    obtain ⟨g, hg⟩ : ∃ g, g = h4.set m (.lst [.loc my1, .loc (h3.length + 1), .loc mr1]) := ⟨_, rfl⟩
    rw [← hg]
    have fg : FrS [m] h4 g := by rw [hg]; exact FrS.set _ _ (by simp)
    have q : ∀ {j : Nat}, h.length ≤ j → j ∉ [m] := fun e hm => by simp at hm; omega
    have S5 : MD g m my1 (h3.length + 1) mr1 [] O' [] :=
      ⟨by rw [hg]; exact List.getElem?_set_self (get_lt B.S.m_), fg.get B.S.y_ (q ly), fg.get gob (q (by omega)), fg.get B.S.r_ (q lr), by
        have := get_lt S3.y_
        have := get_lt S3.r_
        have := S3.ne
        simp; omega⟩
    have gD5 := fg.get B.D_ (q lD)
    rw [itR_loc gD5]
    have := lplaceds_ok (h := g) (k := k + 2) (K := h3.length) (s := 8) (kept := kept) (fs := fs1) (it := .live D1 fs1.length) (ρ := [some (.loc D1), some (.loc m), some (.loc h3.length), a3, some (.loc (h3.length + 1)), a5, a6, a7, a8])
      (P := P) (fg.get B.K_ (q (by omega))) hin (by omega) rfl (fun h' e => by
        have e : h'[D1]? = some (.lst (fs1.map F.v)) := by rw [e D1 (get_lt gD5)]; exact gD5
        exact ⟨by simp [Items.fin, seqL, e], fun j f ef => by simp [Items.get, seqL, e, ef]⟩) (fun x g => by simp) ?_
    · simpa [Items.len] using this
    · intro h6 f6 g6
      have lg := fg.1
      have lf4 := B.fr.1
      rw [← efs] at g6
      exact H h6 g.length my1 (h3.length + 1) mr1 (S5.fr f6 (by simp) (by simp) (by simp) (by simp)) ((((f1.trans f2 (by simp)).trans f3 (by simp)).trans B.fr (by simp)).trans (fg.trans f6 (by simp)) (fun x hx => .inl (by simp at hx; simp [hx]))) ly (by omega) lr (by omega) g6
end Gu
end

section
set_option linter.all false
set_option Elab.async false
namespace Gu
open PySem L2
/-! k56: a store in the law's model; what is drawn -/
theorem all_int : ∀ l : List Int, (l.map Val.int).all Val.atom = true
  | [] => rfl
  | a :: r => by rw [List.map_cons, List.all_cons, all_int r]; rfl
theorem any_int {a : Int} : ∀ l : List Int, ((l.map Val.int).any fun z => Val.eqb z (.int a)) = decide (a ∈ l)
  | [] => rfl
  | b :: r => by
    rw [List.map_cons, List.any_cons, any_int r]
    have : Val.eqb (.int b) (.int a) = (b == a) := rfl
    rw [this]
    by_cases c : b = a
    · subst c; simp
    · have c2 : ¬ a = b := fun e => c e.symm
      simp [c, c2]
theorem cmp_ninI {h : MH} {n : Nat} {a : Int} {l : List Int} (g : h[n]? = some (.lst (l.map Val.int))) : cmpR .NotIn (.int a) (.loc n) h = .ok (.bl (!decide (a ∈ l))) h := by
  have na : (Val.int a).atom = true := rfl
  simp only [cmpR, cmpV, inV?, seqL, g, na, all_int, any_int]
  simp [R.ofO]
theorem tk1 {v : Val} {g : MH} : tupR [v] g = .ok (.tup [v]) g := if_pos (by simp [sizeLine])
theorem f0 {f : F} {g : MH} : idxR f.v (.int 0) g = .ok (.str (if isAt f then [97, 116] else match f with | .int _ => [105, 110, 116] | _ => [116, 97, 103])) g := by
  cases f <;> simp [F.v, isAt]
theorem lstore_ok {h : MH} {m my mo mr k : Nat} {Y O : List Ob} {R : List Int} {a : Int} {x : Ob} {c : F} {P : Val → MH → Prop} (M : MD h m my mo mr Y O R) (e : obAt Y O a = some x) (lR : R.length < 1000)
    (H : ∀ h', MD h' m my mo mr (stY Y a c) (stO O a c) (stR R a c) → FrS [my, mo, mr] h h' → P .non h') :
    Ok (callK ft (k + 2) i__law_store [(F.at a).v, c.v, .loc m] h) P := by
  have ne := M.ne
  have e' := obAt_if e
  apply Ok_call (F := ⟨3, 4, b__law_store⟩) rfl rfl (by decide)
  have e1 : ∀ {g : MH}, idxR (F.at a).v (.int 1) g = .ok (.int a) g := by intro g; simp [F.v]
  have x0 : ∀ {g : MH}, idxR x.v (.int 0) g = .ok (.str x.kind) g := by intro g; simp [Ob.v]
  have x1 : ∀ {g : MH}, idxR x.v (.int 1) g = .ok x.word.v g := by intro g; simp [Ob.v]
  simp [b__law_store]
  refine object_ok M e ?_
  simp [e1, x0, x1, tk1, tk3]
  by_cases ca : a < 0
  · rw [if_pos ca] at e'
    have s1 : stY Y a c = Y.set (-a - 1).toNat ⟨x.kind, x.word, [c]⟩ := by unfold stY; rw [if_pos ca, e']
    have s2 : stO O a c = O := by unfold stO; rw [if_pos ca]
    have s3 : stR R a c = R := by unfold stR; rw [if_pos ca]
    rw [s1, s2, s3] at H
    have l := (List.getElem?_eq_some_iff.mp e').1
    refine ⟨fun _ => ?_, fun z => by omega⟩
    simp [idx_loc M.m_]
    rw [set_loc (j := (-a - 1).toNat) M.y_ (by
      unfold ixN
      rw [if_pos (by omega), if_pos (by simp; omega)])]
    simp only [Ok_ok, OkS_rt, OkS_toS, e_seq, e_retn, OkS_then, OkS_nx]
    have f1 : FrS [my] h (h.set my (.lst ((Y.map Ob.v).set (-a - 1).toNat (.tup [.str x.kind, x.word.v, .tup [c.v]])))) := FrS.set _ _ (by simp)
    refine H _ ⟨f1.get M.m_ (by simp [ne.1]), ?_, f1.get M.o_ (by simp [Ne.symm ne.2.2.2.1]), f1.get M.r_ (by simp [Ne.symm ne.2.2.2.2.1]), M.nd⟩ (f1.mono (by simp))
    rw [List.getElem?_set_self (get_lt M.y_), List.map_set]; rfl
  · rw [if_neg ca] at e'
    have s1 : stY Y a c = Y := by unfold stY; rw [if_neg ca]
    have s2 : stO O a c = O.set a.toNat ⟨x.kind, x.word, [c]⟩ := by unfold stO; rw [if_neg ca, e']
    have s3 : stR R a c = if yng c then addR R a else R := by unfold stR; rw [if_neg ca]
    rw [s1, s2, s3] at H
    have l := (List.getElem?_eq_some_iff.mp e').1
    refine ⟨fun z => by omega, fun _ => ?_⟩
    simp [r__law_store_1, idx_loc M.m_, x0, x1, tk1, tk3, e1]
    rw [set_loc (j := a.toNat) M.o_ (by
      unfold ixN
      rw [if_pos (by omega), if_pos (by simp; omega)])]
    simp
    have f1 : FrS [mo] h (h.set mo (.lst ((O.map Ob.v).set a.toNat (.tup [.str x.kind, x.word.v, .tup [c.v]])))) := FrS.set _ _ (by simp)
    have M1 : MD (h.set mo (.lst ((O.map Ob.v).set a.toNat (.tup [.str x.kind, x.word.v, .tup [c.v]])))) m my mo mr Y (O.set a.toNat ⟨x.kind, x.word, [c]⟩) R :=
      ⟨f1.get M.m_ (by simp [ne.2.1]), f1.get M.y_ (by simp [ne.2.2.2.1]), by rw [List.getElem?_set_self (get_lt M.o_), List.map_set]; rfl, f1.get M.r_ (by simp [Ne.symm ne.2.2.2.2.2]), M.nd⟩
    generalize (h.set mo (.lst ((O.map Ob.v).set a.toNat (.tup [.str x.kind, x.word.v, .tup [c.v]])))) = h1 at *
    have nb : yng c = false → P .non h1 := fun y => by
      rw [y] at H
      exact H h1 M1 (f1.mono (by simp))
    cases c with
    | int i => simp [F.v]; exact nb rfl
    | tag i => simp [F.v]; exact nb rfl
    | «at» b =>
      simp [F.v]
      refine ⟨fun cb => ?_, fun cb => nb (by simp [yng]; omega)⟩
      have yb : yng (F.at b) = true := by simp [yng]; omega
      rw [yb] at H
      simp [idx_loc M1.m_, cmp_ninI M1.r_]
      refine ⟨fun hn => ?_, fun hm => ?_⟩
      · simp [(mtT_loc M1.r_).1]
        rw [mt_append M1.r_ (by simp [sizeLine]; omega)]
        simp
        have f2 : FrS [mr] h1 (h1.set mr (.lst (R.map Val.int ++ [.int a]))) := FrS.set _ _ (by simp)
        refine H _ ⟨f2.get M1.m_ (by simp [ne.2.2.1]), f2.get M1.y_ (by simp [ne.2.2.2.2.1]), f2.get M1.o_ (by simp [ne.2.2.2.2.2]), ?_, M.nd⟩ ((f1.mono (by simp)).trans f2 (fun z hz => .inl (by simp at hz; simp [hz])))
        rw [List.getElem?_set_self (get_lt M1.r_)]
        simp [addR, hn]
      · refine H _ ?_ (f1.mono (by simp))
        have : addR R a = R := by simp [addR, hm]
        simp only [this, if_true]
        exact M1
/-! what is drawn -/
def Fed (fs : List F) (f : F) : Prop := f ∈ fs ∨ isAt f = false
theorem dv_lt {h : MH} (D : Dv h 0) : 0 < h.length := by obtain ⟨_, _, e, _⟩ := D; exact get_lt e
theorem some_ok {h : MH} {k rl : Nat} {fs : List F} {P : Val → MH → Prop} (D : Dv h 0) (g : h[rl]? = some (.lst (fs.map F.v))) (z : rl ≠ 0) (lr : fs.length ≤ 100)
    (H : ∀ f h', Fed fs f → Dv h' 0 → FrS [0] h h' → P f.v h') : Ok (callK ft (k + 2) i__law_some [.loc 0, .loc rl] h) P := by
  apply Ok_call (F := ⟨2, 2, b__law_some⟩) rfl rfl (by decide)
  have R : ∀ h1, Dv h1 0 → FrS [0] h h1 → OkS (evS (callK ft (k + 1)) r__law_some_1 [some (.loc 0), some (.loc rl)] h1) (fun _ h => P .non h) P (fun _ _ => False) (fun _ _ => False) := by
    intro h1 D1 f1
    simp [r__law_some_1]
    apply take_ok D1 (by decide) (by decide)
    intro c h2 _ D2 f2
    simp [tk2]
    apply take_ok D2 (by decide) (by decide)
    intro c3 h3 _ D3 f3
    simp [tk2, lstR_ok (xs := [_, _]) (by simp [sizeLine])]
    have l1 : 0 < h3.length := dv_lt D3
    generalize hx : h3 ++ [MO.lst [Val.tup [.str [105, 110, 116], .int ((c : Int) - 4)], .tup [.str [116, 97, 103], .int (c3 : Int)]]] = h4
    have f4 : FrS [0] h3 h4 := by rw [← hx]; exact FrS.app _ _ _
    have D4 : Dv h4 0 := D3.fr (S := []) (by rw [← hx]; exact FrS.app _ _ _) (by simp)
    have g4 : h4[h3.length]? = some (.lst [Val.tup [.str [105, 110, 116], .int ((c : Int) - 4)], .tup [.str [116, 97, 103], .int (c3 : Int)]]) := by rw [← hx]; simp
    apply take_ok D4 (by decide) (by decide)
    intro c5 h5 hc5 D5 f5
    have g5 := f5.get g4 (by intro m; have := List.mem_singleton.mp m; omega)
    have fr := (((f1.trans f2 (by simp)).trans f3 (by simp)).trans f4 (by simp)).trans f5 (by simp)
    have h01 : c5 = 0 ∨ c5 = 1 := by omega
    rcases h01 with rfl | rfl
    · simp [idx_loc g5]
      exact H (.int _) h5 (.inr rfl) D5 fr
    · simp [idx_loc g5]
      exact H (.tag _) h5 (.inr rfl) D5 fr
  simp [b__law_some, bi_lenL g]
  constructor
  · intro ne
    apply take_ok D (by decide) (by decide)
    intro c h1 _ D1 f1
    simp
    have g1 := f1.get g (by simpa using z)
    constructor
    · intro _
      simp [bi_lenL g1]
      have lp : 0 < fs.length := by first | exact ne | exact List.length_pos_iff.2 ne
      apply take_ok D1 (by omega) (by
        have := lg (i := (fs.length : Int)) (n := 10) (by omega)
        omega)
      intro j h2 hj D2 f2
      have g2 := f2.get g1 (by simpa using z)
      have lj : j < fs.length := by omega
      have ej : atI (fs.map F.v) (j : Int) = some (fs[j]).v := atI_lt (by rw [List.getElem?_map, List.getElem?_eq_getElem lj]; rfl)
      simp [idx_loc g2, ej]
      exact H _ h2 (.inl (List.getElem_mem lj)) D2 (f1.trans f2 (by simp))
    · intro _
      exact R h1 D1 f1
  · intro _
    exact R h D (FrS.refl _ _)
theorem rep_s (n : Nat) : (List.replicate n [115]).flatten = List.replicate n 115 := by
  induction n with
  | zero => rfl
  | succ n ih => simp [List.replicate_succ, ih]
theorem bin_rep {n : Nat} {h : MH} (l : n ≤ 10) : binV .Mult (.str [115]) (.int n) h = .ok (.str (List.replicate n 115)) h := by
  have c : (0 : Int) ≤ n ∧ (n : Int) ≤ 100000 ∧ ([115] : List Nat).length * (n : Int).toNat ≤ 100000 := by simp; omega
  show (if (0 : Int) ≤ n ∧ (n : Int) ≤ 100000 ∧ ([115] : List Nat).length * (n : Int).toNat ≤ 100000 then (R.ok (Val.str (List.replicate (n : Int).toNat [115]).flatten) h : Gu.R Val) else .no) = _
  rw [if_pos c]
  simp [rep_s]
theorem made_ok {h : MH} {k rl : Nat} {fs : List F} {P : Val → MH → Prop} (D : Dv h 0) (g : h[rl]? = some (.lst (fs.map F.v))) (z : rl ≠ 0) (lr : fs.length ≤ 100)
    (H : ∀ (x : Ob) h', (∀ f ∈ x.fs, Fed fs f) → x.fs.length ≤ 4 → Dv h' 0 → FrS [0] h h' → P x.v h') : Ok (callK ft (k + 3) i__law_made [.loc 0, .loc rl] h) P := by
  apply Ok_call (F := ⟨2, 5, b__law_made⟩) rfl rfl (by decide)
  simp [b__law_made]
  apply take_ok D (by decide) (by decide)
  intro w h1 hw D1 f1
  have zz : rl ∉ [0] := by simpa using z
  refine some_ok (k := k) D1 (f1.get g zz) z lr ?_
  intro fa h2 fd D2 f2
  have f02 : FrS [0] h h2 := f1.trans f2 (by simp)
  have t0 : ∀ {g : MH}, tupR [] g = .ok (.tup []) g := fun {g} => if_pos (by simp)
  have l0 : 0 < h2.length := dv_lt D2
  have hw : w = 0 ∨ w = 1 ∨ w = 2 ∨ w = 3 ∨ w = 4 ∨ w = 5 ∨ w = 6 := by omega
  rcases hw with rfl | rfl | rfl | rfl | rfl | hw
  · simp
    apply take_ok D2 (by decide) (by decide)
    intro c h3 hc D3 f3
    simp [t0, bin_rep (n := c) (by omega), tk3]
    exact H ⟨[115, 116, 114, 105, 110, 103], Wd.str (List.replicate c 115), []⟩ h3 (by simp) (by simp) D3 (f02.trans f3 (by simp))
  · simp [r__law_made_5]
    apply take_ok D2 (by decide) (by decide)
    intro c h3 hc D3 f3
    have e : (1 : Int) + (c : Int) = ((1 + c : Nat) : Int) := by omega
    have hr : rng1R (.int ((1 + c : Nat) : Int)) h3 = .ok (.rng 0 (1 + c)) h3 := by rw [rng1R_ok (by omega), Int.toNat_natCast]
    simp only [bin_add, Ok_ok, e, hr]
    have f03 : FrS [0] h h3 := f02.trans f3 (by simp)
    have l3 := f03.1
    have lrl := get_lt g
    have := lcLoop_ok (D := h3.length) (t := .nm 4) (ρ := wipeR [some (.loc 0), some (.loc rl), some (.int 1), some fa.v, none] [4]) (cnd := (ev (callK ft (k + 2)) .nil).t) (elt := (ev (callK ft (k + 2)) (.call i__law_some (.cons (.var 0) (.cons (.var 1) .nil)))).v) (it := .rng 0 (1 + c))
      (P := fun a h_1 => Ok (biV BI.tuple [a] h_1) fun a h_2 => Ok (tupR [Val.str [116, 117, 112, 108, 101], .int 0, a] h_2) P)
      (fun i h' => ∃ qs : List F, h'[h3.length]? = some (.lst (qs.map F.v)) ∧ qs.length = i ∧ (∀ f ∈ qs, Fed fs f) ∧ Dv h' 0 ∧ FrS [0] h3 h') ?_ ?_ (1 + c) 0 (h3 ++ [.lst []]) (by simp [Items.len]) ⟨[], by simp, rfl, by simp, Dv.fr D3 (FrS.app [] _ _) (by simp), FrS.app _ _ _⟩
    · simpa [Items.len] using this
    · rintro i h' li ⟨qs, g', lq, fq, D', f'⟩
      have li : i < 1 + c := li
      refine ⟨_, _, rfl, rfl, ?_⟩
      simp [wipeR]
      refine some_ok (k := k) D' (f'.get (f03.get g zz) zz) z lr ?_
      intro f h'' fd2 D'' f''
      have g'' := f''.get g' (by simp only [List.mem_singleton]; omega)
      refine ⟨_, g'', by simp [sizeLine]; omega, qs ++ [f], ?_, by simp [lq], ?_, Dv.fr D'' (FrS.set (S := [h3.length]) _ _ (by simp)) (by simp; omega), ?_⟩
      · rw [List.getElem?_set_self (get_lt g'')]; simp
      · intro q hq
        rcases List.mem_append.mp hq with h | h
        · exact fq q h
        · rw [List.mem_singleton.mp h]; exact fd2
      · exact (f'.trans f'' (by simp)).trans (FrS.set (S := [h3.length]) _ _ (by simp)) (fun x hx => .inr (by simp at hx; omega))
    · rintro h4 ⟨qs, g4, lq, fq, D4, f4⟩
      have lq : qs.length = 1 + c := lq
      refine ⟨rfl, ?_⟩
      simp [bi_tupL g4, tk3]
      exact H ⟨[116, 117, 112, 108, 101], Wd.int 0, qs⟩ h4 fq (by simp; omega) D4 (f03.trans f4 (by simp))
  · simp [r__law_made_5, r__law_made_4]
    apply take_ok D2 (by decide) (by decide)
    intro c h3 hc D3 f3
    simp [tk1, tk3]
    exact H ⟨[109, 97, 107, 101], Wd.int c, [fa]⟩ h3 (by simpa using fd) (by simp) D3 (f02.trans f3 (by simp))
  · simp [r__law_made_5, r__law_made_4, r__law_made_3]
    apply take_ok D2 (by decide) (by decide)
    intro c h3 hc D3 f3
    simp [tk1]
    apply take_ok D3 (by decide) (by decide)
    intro c4 h4 hc4 D4 f4
    have fr := (f02.trans f3 (by simp)).trans f4 (by simp)
    have h01 : c4 = 0 ∨ c4 = 1 := by omega
    rcases h01 with rfl | rfl
    · have ec : cutL [fa.v] none (some ((0 : Nat) : Int)) = [] := rfl
      simp [ec, tk3]
      exact H ⟨[112, 97, 99, 107], Wd.int c, []⟩ h4 (by simp) (by simp) D4 fr
    · have ec : cutL [fa.v] none (some ((1 : Nat) : Int)) = [fa.v] := rfl
      simp [ec, tk3]
      exact H ⟨[112, 97, 99, 107], Wd.int c, [fa]⟩ h4 (by simpa using fd) (by simp) D4 fr
  · simp [r__law_made_5, r__law_made_4, r__law_made_3, r__law_made_2]
    apply take_ok D2 (by decide) (by decide)
    intro c h3 hc D3 f3
    simp [tk1, tk3]
    exact H ⟨[99, 108, 111, 115, 101], Wd.int c, [fa]⟩ h3 (by simpa using fd) (by simp) D3 (f02.trans f3 (by simp))
  · have n0 : ¬ ((w : Int) = 0) := by omega
    have n1 : ¬ ((w : Int) = 1) := by omega
    have n2 : ¬ ((w : Int) = 2) := by omega
    have n3 : ¬ ((w : Int) = 3) := by omega
    have n4 : ¬ ((w : Int) = 4) := by omega
    have m0 : ¬ (w = 0) := by omega
    simp [n0, n1, n2, n3, n4, m0, r__law_made_5, r__law_made_4, r__law_made_3, r__law_made_2, r__law_made_1, tk1, tk3]
    exact H ⟨[114, 101, 102], Wd.int 0, [fa]⟩ h2 (by simpa using fd) (by simp) D2 f02
end Gu
end

section
set_option linter.all false
set_option Elab.async false
set_option maxHeartbeats 1000000
namespace Gu
open PySem L2
/-! k56: a side (a heap, its model, its roots); a deed -/
structure Ad where
  n : Nat
  y : Nat
  o : Nat
  r : Nat
  m : Nat
  my : Nat
  mo : Nat
  mr : Nat
  rl : Nat
structure Da where
  Y : List Ob
  O : List Ob
  R : List Int
  fs : List F
def Ad.p (a : Ad) : List Nat := [a.n, a.y, a.o, a.r]
def Ad.q (a : Ad) : List Nat := [a.m, a.my, a.mo, a.mr]
def Ad.l (a : Ad) : List Nat := a.p ++ a.q ++ [a.rl]
def Da.c (d : Da) : Nat := d.Y.length + d.O.length + d.R.length
structure SS (h : MH) (a : Ad) (room : Int) (d : Da) : Prop where
  S : HS h a.n a.y a.o a.r room d.Y d.O d.R
  M : MD h a.m a.my a.mo a.mr d.Y d.O d.R
  g : h[a.rl]? = some (.lst (d.fs.map F.v))
  I : VI d.Y d.O d.R
  v : ∀ f ∈ d.fs, Vd d.Y.length d.O.length f
  l8 : d.fs.length ≤ 8
  ry : (d.Y.length : Int) ≤ room
  dj : ∀ p ∈ a.p, ∀ q ∈ a.q, p ≠ q
  rl : ∀ p ∈ a.p ++ a.q, p ≠ a.rl
  z : ∀ p ∈ a.l, p ≠ 0
/-- the places of a side behind a deed -/
structure Nw (h : MH) (a a' : Ad) : Prop where
  n : a'.n = a.n
  m : a'.m = a.m
  l : ∀ x ∈ a'.l, x ∈ a.l ∨ h.length ≤ x
section
variable {h h' : MH} {a : Ad} {room : Int} {d : Da}
theorem SS.lt (A : SS h a room d) : ∀ x ∈ a.l, x < h.length := by
  intro x hx
  simp [Ad.l, Ad.p, Ad.q] at hx
  have s := A.S
  have m := A.M
  rcases hx with rfl | rfl | rfl | rfl | rfl | rfl | rfl | rfl | rfl
  · exact get_lt s.ob
  · exact get_lt s.y_
  · exact get_lt s.o_
  · exact get_lt s.r_
  · exact get_lt m.m_
  · exact get_lt m.y_
  · exact get_lt m.o_
  · exact get_lt m.r_
  · exact get_lt A.g
theorem HS.frl {n y o r : Nat} {Y O : List Ob} {R : List Int} {S : List Nat} (s : HS h n y o r room Y O R) (f : FrS S h h') (e : ∀ x ∈ [n, y, o, r], x ∉ S) : HS h' n y o r room Y O R :=
  s.fr f (e _ (by simp)) (e _ (by simp)) (e _ (by simp)) (e _ (by simp))
theorem MD.frl {m my mo mr : Nat} {Y O : List Ob} {R : List Int} {S : List Nat} (s : MD h m my mo mr Y O R) (f : FrS S h h') (e : ∀ x ∈ [m, my, mo, mr], x ∉ S) : MD h' m my mo mr Y O R :=
  s.fr f (e _ (by simp)) (e _ (by simp)) (e _ (by simp)) (e _ (by simp))
theorem SS.fr (A : SS h a room d) {S : List Nat} (f : FrS S h h') (e : ∀ x ∈ a.l, x ∉ S) : SS h' a room d :=
  ⟨A.S.frl f fun x hx => e x (by simp [Ad.l, Ad.p]; simp at hx; omega), A.M.frl f fun x hx => e x (by simp [Ad.l, Ad.q]; simp at hx; omega), f.get A.g (e _ (by simp [Ad.l])), A.I, A.v, A.l8, A.ry, A.dj, A.rl, A.z⟩
theorem SS.ap (A : SS h a room d) (f : FrS [] h h') : SS h' a room d := A.fr f (by simp)
theorem SS.dr (A : SS h a room d) (f : FrS [0] h h') : SS h' a room d := A.fr f fun x hx m => A.z x hx (List.mem_singleton.mp m)
/-- other roots -/
theorem SS.ro (A : SS h a room d) {L : Nat} {fs : List F} (g : h'[L]? = some (.lst (fs.map F.v))) (f : FrS [] h h') (l : h.length ≤ L) (v : ∀ f ∈ fs, Vd d.Y.length d.O.length f) (l8 : fs.length ≤ 8) : SS h' { a with rl := L } room { d with fs := fs } := by
  have B := A.ap f
  have lt := A.lt
  refine ⟨B.S, B.M, g, A.I, v, l8, A.ry, A.dj, fun p hp => ?_, fun p hp => ?_⟩
  · have hp : p ∈ a.p ++ a.q := hp
    have := lt p (by simp only [Ad.l, List.mem_append] at hp ⊢; exact .inl hp)
    show p ≠ L
    omega
  · have hp : p ∈ a.p ++ a.q ++ [L] := hp
    rcases List.mem_append.mp hp with h1 | h1
    · exact A.z p (by simp only [Ad.l]; exact List.mem_append_left _ h1)
    · have := List.mem_singleton.mp h1
      have := lt a.n (by simp [Ad.l, Ad.p])
      omega
theorem Nw.ro {L : Nat} (l : h.length ≤ L) : Nw h a { a with rl := L } := ⟨rfl, rfl, fun x hx => by
  have hx : x ∈ a.p ++ a.q ++ [L] := hx
  rcases List.mem_append.mp hx with h1 | h1
  · exact .inl (by simp only [Ad.l]; exact List.mem_append_left _ h1)
  · rw [List.mem_singleton.mp h1]; exact .inr l⟩
theorem Nw.refl : Nw h a a := ⟨rfl, rfl, fun _ hx => .inl hx⟩
theorem Nw.mono {h0 : MH} {a' : Ad} (n : Nw h a a') (l : h0.length ≤ h.length) : Nw h0 a a' := ⟨n.n, n.m, fun x hx => (n.l x hx).imp id fun z => Nat.le_trans l z⟩
theorem sub_l {S : List Nat} (f : FrS S h h') (e : ∀ x ∈ S, x ∈ 0 :: a.l) : FrS (0 :: a.l) h h' := f.mono e
/-- what is wished behind a deed -/
def DE (h : MH) (a : Ad) (room : Int) (d : Da) (P : Val → MH → Prop) : Prop := ∀ h' a' d', SS h' a' room d' → Dv h' 0 → Nw h a a' → d'.c ≤ d.c + 1 → FrS (0 :: a.l) h h' → P (.tup [.loc a'.rl, .bl true]) h'
theorem DE.dr {P : Val → MH → Prop} (E : DE h a room d P) (f : FrS [0] h h') : DE h' a room d P := fun h2 a' d' A D n c f2 =>
  E h2 a' d' A D (n.mono f.1) c ((f.mono (by simp)).trans f2 (fun x hx => .inl hx))
theorem DE.ap {P : Val → MH → Prop} (E : DE h a room d P) (f : FrS [] h h') : DE h' a room d P := fun h2 a' d' A D n c f2 =>
  E h2 a' d' A D (n.mono f.1) c ((f.mono (by simp)).trans f2 (fun x hx => .inl hx))
end
/-! slices -/
theorem slc_loc {h : MH} {n : Nat} {xs : List Val} {lo hi : Option Int} (g : h[n]? = some (.lst xs)) : slcV h (.loc n) lo hi = .ok (.loc h.length) (h ++ [.lst (cutL xs lo hi)]) := by simp [slcV, seqL, g]
theorem cut_fr {α : Type} {xs : List α} {n : Nat} {i : Int} (e : i = n) (h : n ≤ xs.length) : cutL xs (some i) none = xs.drop n := by
  subst e
  unfold cutL
  rw [HT.sIx_nat, HT.sIx_none, Nat.min_eq_left h]
  exact List.take_of_length_le (by simp)
theorem cut_to {α : Type} {xs : List α} {n : Nat} {i : Int} (e : i = n) : cutL xs none (some i) = xs.take n := by
  subst e
  unfold cutL
  rw [HT.sIx_nat, HT.sIx_none, Nat.sub_zero, List.drop_zero]
  rcases Nat.le_total n xs.length with c | c
  · rw [Nat.min_eq_left c]
  · rw [Nat.min_eq_right c, List.take_of_length_le (Nat.le_refl _), List.take_of_length_le c]
theorem cut_last8 {α : Type} {xs : List α} : cutL xs (some (-8)) none = xs.drop (xs.length - 8) := by
  simp only [cutL, HT.sIx]
  rw [if_pos (by omega)]
  have : ((-8 : Int) + xs.length).toNat = xs.length - 8 := by omega
  rw [this]
  apply List.take_of_length_le
  simp
theorem add_loc {h : MH} {n m : Nat} {xs ys : List Val} (g : h[n]? = some (.lst xs)) (g2 : h[m]? = some (.lst ys)) (l : xs.length + ys.length ≤ sizeLine) : binV .Add (.loc n) (.loc m) h = .ok (.loc h.length) (h ++ [.lst (xs ++ ys)]) := by
  simp only [binV, g, g2]
  rw [if_pos l]
theorem rev_loc {h : MH} {n : Nat} {xs : List Val} (g : h[n]? = some (.lst xs)) : revV (.loc n) h = .ok (.loc h.length) (h ++ [.lst xs.reverse]) := by simp [revV, seqL, g]
/-! equalities of values -/
theorem Fv_flat (f : F) : Val.flat f.v = true ∧ Val.depth f.v = 1 := by cases f <;> exact ⟨rfl, rfl⟩
theorem Fvs_flat : ∀ fs : List F, Val.flats (fs.map F.v) = true ∧ Val.depths (fs.map F.v) ≤ 1
  | [] => ⟨rfl, Nat.zero_le _⟩
  | f :: r => by
    have ih := Fvs_flat r
    have hf := Fv_flat f
    refine ⟨by show (Val.flat f.v && Val.flats (r.map F.v)) = true; rw [ih.1, hf.1]; rfl, ?_⟩
    show max (Val.depth f.v) (Val.depths (r.map F.v)) ≤ 1
    omega
theorem Fv_eqb (f : F) : Val.eqb f.v f.v = true := by cases f <;> simp [F.v, Val.eqb, Val.eqbs]
theorem Fvs_eqb : ∀ fs : List F, Val.eqbs (fs.map F.v) (fs.map F.v) = true
  | [] => rfl
  | f :: r => by show (Val.eqb f.v f.v && Val.eqbs (r.map F.v) (r.map F.v)) = true; rw [Fv_eqb, Fvs_eqb r]; rfl
theorem eq_tup {fs : List F} {h : MH} : cmpR .Eq (.tup (fs.map F.v)) (.tup (fs.map F.v)) h = .ok (.bl true) h := by
  have h1 := Fvs_flat fs
  have e1 : Val.flat (.tup (fs.map F.v)) = true := h1.1
  have e2 : Val.depth (.tup (fs.map F.v)) ≤ 150 := by show Val.depths (fs.map F.v) + 1 ≤ 150; omega
  have e3 : Val.eqb (.tup (fs.map F.v)) (.tup (fs.map F.v)) = true := Fvs_eqb fs
  simp only [cmpR, cmpV, eqV?, e1, e2, e3]
  simp [R.ofO]
theorem eq_F {f : F} {h : MH} : cmpR .Eq f.v f.v h = .ok (.bl true) h := by
  cases f <;> simp [F.v, cmpR, cmpV, eqV?, Val.flat, Val.flats, Val.depth, Val.depths, Val.eqb, Val.eqbs]
theorem cmp_in34 {w : Int} {h : MH} : cmpR .In (.int w) (.tup [.int 3, .int 4]) h = .ok (.bl (decide (w = 3 ∨ w = 4))) h := by
  have e : cmpR .In (.int w) (.tup [.int 3, .int 4]) h = .ok (.bl ((3 == w) || ((4 == w) || false))) h := rfl
  rw [e]
  congr 2
  by_cases c3 : w = 3
  · subst c3; rfl
  · by_cases c4 : w = 4
    · subst c4; rfl
    · have h3 : ((3 : Int) == w) = false := by simpa using fun e => c3 e.symm
      have h4 : ((4 : Int) == w) = false := by simpa using fun e => c4 e.symm
      simp [h3, h4, c3, c4]
/-- the roots that are refs -/
theorem refs_ok {h : MH} {a : Ad} {room : Int} {d : Da} {k : Nat} {ρ : Rho} {P : Val → MH → Prop} {cnd : E} (A : SS h a room d)
    (hc1 : ∀ (f : F) (g : MH), isAt f = false → (ev (callK ft (k + 1)) cnd).t ((ρ.set 7 none).set 7 (some f.v)) g = .ok false g)
    (hc2 : ∀ (b : Int) (g : MH) (x : Ob), MD g a.m a.my a.mo a.mr d.Y d.O d.R → obAt d.Y d.O b = some x → (ev (callK ft (k + 1)) cnd).t ((ρ.set 7 none).set 7 (some (F.at b).v)) g = .ok (x.kind == [114, 101, 102]) g) (l7 : 7 < ρ.length)
    (H : ∀ h' (qs : List Int), FrS [] h h' → h'[h.length]? = some (.lst (qs.map aV)) → qs.length ≤ 8 → (∀ q ∈ qs, F.at q ∈ d.fs) → P (.loc h.length) h') :
    Ok (lcLoop h.length (.nm 7) (wipeR ρ [7]) (ev (callK ft (k + 1)) cnd).t (ev (callK ft (k + 1)) (.var 7)).v (.live a.rl d.fs.length) d.fs.length 0 (h ++ [.lst []])) P := by
  have l8 := A.l8
  refine lcLoop_ok (it := .live a.rl d.fs.length) (fun j h' => ∃ qs : List Int, FrS [] h h' ∧ h'[h.length]? = some (.lst (qs.map aV)) ∧ qs.length ≤ j ∧ (∀ q ∈ qs, F.at q ∈ d.fs)) ?_ ?_ _ 0 _ (by simp [Items.len]) ⟨[], FrS.app _ _ _, by simp, by simp, fun q hq => by cases hq⟩
  · rintro j h' lj ⟨qs, f', g', lq, fq⟩
    have lj : j < d.fs.length := lj
    have A' := A.ap f'
    have gr := A'.g
    refine ⟨(d.fs[j]).v, _, by simp [Items.get, seqL, gr, lj], rfl, ?_⟩
    have vf := A.v _ (List.getElem_mem lj)
    have mf := List.getElem_mem lj
    generalize d.fs[j] = f at *
    show Ok ((ev (callK ft (k + 1)) cnd).t ((ρ.set 7 none).set 7 (some f.v)) h') _
    cases hf : isAt f with
    | false =>
      rw [hc1 f h' hf]
      exact Ok_ok.2 ⟨fun z => (by cases z), fun _ => ⟨qs, f', g', by omega, fq⟩⟩
    | true =>
      cases f with
      | int i => cases hf
      | tag i => cases hf
      | «at» b =>
      obtain ⟨x, ex⟩ := obAt_vd vf
      rw [hc2 b h' x A'.M ex]
      refine Ok_ok.2 ⟨fun z => ?_, fun _ => ⟨qs, f', g', by omega, fq⟩⟩
      have ev1 : (ev (callK ft (k + 1)) (.var 7)).v ((ρ.set 7 none).set 7 (some (F.at b).v)) h' = .ok (F.at b).v h' := by simp [l7]
      show Ok ((ev (callK ft (k + 1)) (.var 7)).v ((ρ.set 7 none).set 7 (some (F.at b).v)) h') _
      rw [ev1]
      refine Ok_ok.2 ⟨_, g', by simp [sizeLine]; omega, qs ++ [b], f'.trans (FrS.set (S := [h.length]) _ _ (by simp)) (fun x hx => .inr (by simp at hx; omega)), ?_, by simp; omega, fun q hq => ?_⟩
      · rw [List.getElem?_set_self (get_lt g')]; simp [aV]
      · rcases List.mem_append.mp hq with h | h
        · exact fq q h
        · rw [List.mem_singleton.mp h]; exact mf
  · rintro h' ⟨qs, f', g', lq, fq⟩
    have gr := (A.ap f').g
    have lq : qs.length ≤ d.fs.length := lq
    exact ⟨by simp [Items.fin, Items.len, seqL, gr], H h' qs f' g' (by omega) fq⟩
end Gu
end

section
set_option linter.all false
set_option Elab.async false
set_option maxHeartbeats 1000000
namespace Gu
open PySem L2
/-! k56: the deed's branches -/
abbrev denv (a : Ad) (room : Int) (w : Int) (qv : Nat) (a7 a8 a9 a10 a11 a12 a13 a14 : Option Val) : Rho := [some (.loc 0), some (.loc a.n), some (.loc a.m), some (.loc a.rl), some (.int room), some (.int w), some (.loc qv), a7, a8, a9, a10, a11, a12, a13, a14]
section
variable {h : MH} {a : Ad} {room : Int} {d : Da} {k : Nat} {P : Val → MH → Prop} {N B C : Rho → MH → Prop}
abbrev Ret (k : Nat) (s : S) (ρ : Rho) (h : MH) (P : Val → MH → Prop) : Prop := OkS (evS (callK ft k) s ρ h) (fun _ h => P .non h) P (fun _ _ => False) (fun _ _ => False)
theorem SS.at_ (A : SS h a room d) {b : Int} (hb : F.at b ∈ d.fs) : ∃ x, obAt d.Y d.O b = some x := obAt_vd (A.v _ hb)
/-- a root is dropped -/
theorem drop_ok (A : SS h a room d) (D : Dv h 0) (E : DE h a room d P) {g : Nat} (hg : g < d.fs.length) :
    Ok (slcV h (.loc a.rl) none (some (g : Int))) fun x h1 => Ok (slcV h1 (.loc a.rl) (some ((g : Int) + 1)) none) fun y h2 => Ok (binV .Add x y h2) fun v h3 => P (.tup [v, .bl true]) h3 := by
  have l8 := A.l8
  rw [slc_loc A.g, cut_to (n := g) rfl]
  refine Ok_ok.2 ?_
  have g1 : (h ++ [MO.lst ((d.fs.map F.v).take g)])[a.rl]? = some (.lst (d.fs.map F.v)) := get_app A.g
  rw [slc_loc g1, cut_fr (n := g + 1) (by omega) (by simp; omega)]
  refine Ok_ok.2 ?_
  have e0 : h ++ [MO.lst ((d.fs.map F.v).take g)] ++ [MO.lst ((d.fs.map F.v).drop (g + 1))] = h ++ [MO.lst ((d.fs.map F.v).take g), MO.lst ((d.fs.map F.v).drop (g + 1))] := by simp
  rw [e0]
  rw [add_loc (n := h.length) (m := (h ++ [MO.lst ((d.fs.map F.v).take g)]).length) (xs := (d.fs.map F.v).take g) (ys := (d.fs.map F.v).drop (g + 1)) (by simp) (by simp) (by simp [sizeLine]; omega)]
  refine Ok_ok.2 ?_
  have e1 : (d.fs.map F.v).take g ++ (d.fs.map F.v).drop (g + 1) = (d.fs.take g ++ d.fs.drop (g + 1)).map F.v := by simp
  rw [e1]
  generalize hk : h ++ [MO.lst ((d.fs.map F.v).take g), MO.lst ((d.fs.map F.v).drop (g + 1))] = h2
  have f2 : FrS [] h h2 := by rw [← hk]; exact FrS.app _ _ _
  have f3 : FrS [] h (h2 ++ [MO.lst ((d.fs.take g ++ d.fs.drop (g + 1)).map F.v)]) := f2.trans (FrS.app [] _ _) (by simp)
  exact E _ _ _ (A.ro (L := h2.length) (fs := d.fs.take g ++ d.fs.drop (g + 1)) (by simp) f3 f2.1 (fun f hf => A.v f (by
      rcases List.mem_append.mp hf with q | q
      · exact List.mem_of_mem_take q
      · exact List.mem_of_mem_drop q)) (by simp; omega)) (D.fr f3 (by simp)) (Nw.ro f2.1) (by show d.c ≤ d.c + 1; omega) (f3.mono (by simp))
theorem SS.ne0 (A : SS h a room d) : a.rl ≠ 0 := A.z a.rl (by simp [Ad.l])
theorem notm {x : Nat} {l : List Nat} (h : ∀ y ∈ l, x ≠ y) : x ∉ l := fun m => h x m rfl
/-- a store -/
theorem st_ok (A : SS h a room d) (D : Dv h 0) (E : DE h a room d P) (c63 : d.c ≤ 63) {b : Int} (hb : F.at b ∈ d.fs) {w : Int} {qv : Nat} {a7 a8 a11 a12 a13 a14 : Option Val} {c : F} (hc : Fed d.fs c) :
    OkS (evS (callK ft (k + 5)) (.seq (.expr (.mcl i_Heap_store "Heap" "store" (.var 1) (.cons (.var 9) (.cons (.var 10) .nil)))) (.seq (.expr (.call i__law_store (.cons (.var 9) (.cons (.var 10) (.cons (.var 2) .nil))))) (.seq (.ret (.tup (.cons (.var 3) (.cons (.cst (.bl true)) .nil)))) .skip))) (denv a room w qv a7 a8 (some (F.at b).v) (some c.v) a11 a12 a13 a14) h) N P B C := by
  obtain ⟨x, ex⟩ := A.at_ hb
  have lR : d.R.length < 1000 := by have := A.I.sz; omega
  unfold denv
  simp [isObj_ok A.S.ob]
  refine store_ok (k := k + 3) A.S ex lR ?_
  intro h1 S1 f1
  have M1 : MD h1 a.m a.my a.mo a.mr d.Y d.O d.R := A.M.frl f1 fun q hq m => by
    have hq : q ∈ a.q := hq
    simp at m
    rcases m with rfl | rfl | rfl
    · exact A.dj _ (by simp [Ad.p]) _ hq rfl
    · exact A.dj _ (by simp [Ad.p]) _ hq rfl
    · exact A.dj _ (by simp [Ad.p]) _ hq rfl
  refine lstore_ok (k := k + 3) M1 ex lR ?_
  intro h2 M2 f2
  simp [tk2]
  have S2 := S1.frl f2 fun p hp m => by
    have hp : p ∈ a.p := hp
    simp at m
    rcases m with rfl | rfl | rfl
    · exact A.dj _ hp _ (by simp [Ad.q]) rfl
    · exact A.dj _ hp _ (by simp [Ad.q]) rfl
    · exact A.dj _ hp _ (by simp [Ad.q]) rfl
  have f12 : FrS [a.y, a.o, a.r, a.my, a.mo, a.mr] h h2 := (f1.mono (by simp)).trans f2 (fun x hx => .inl (by simp at hx ⊢; omega))
  have vc : Vd d.Y.length d.O.length c := by
    rcases hc with q | q
    · exact A.v c q
    · cases c with
      | «at» z => cases q
      | _ => trivial
  have z : ∀ p ∈ [a.y, a.o, a.r, a.my, a.mo, a.mr], p ≠ 0 ∧ p ≠ a.rl := fun p hp => by
    have hl : p ∈ a.p ++ a.q := by simp at hp; simp [Ad.p, Ad.q]; omega
    exact ⟨A.z p (by simp only [Ad.l]; exact List.mem_append_left _ hl), A.rl p hl⟩
  have cc := stR_len (R := d.R) (a := b) (c := c)
  have ly := stY_len (Y := d.Y) (a := b) (c := c)
  have lo := stO_len (Y := d.O) (a := b) (c := c)
  have l1 : d.R.length + 1 < 64 := by
    have vb : if b < 0 then (-b - 1).toNat < d.Y.length else b.toNat < d.O.length := A.v _ hb
    unfold Da.c at c63
    split at vb <;> omega
  have I2 := A.I.store (a := b) (c := c) (A.v _ hb) vc l1
  refine E h2 a { Y := stY d.Y b c, O := stO d.O b c, R := stR d.R b c, fs := d.fs } ⟨S2, M2, f12.get A.g (notm fun y hy => (z y hy).2.symm), I2, fun f hf => by
    show Vd (stY d.Y b c).length (stO d.O b c).length f
    rw [ly, lo]; exact A.v f hf, A.l8, by show ((stY d.Y b c).length : Int) ≤ room; rw [ly]; exact A.ry, A.dj, A.rl, A.z⟩ (D.fr f12 (notm fun y hy => (z y hy).1.symm)) .refl ?_ (f12.mono fun p hp => by simp at hp; simp [Ad.l, Ad.p, Ad.q]; omega)
  show (stY d.Y b c).length + (stO d.O b c).length + (stR d.R b c).length ≤ d.Y.length + d.O.length + d.R.length + 1
  omega
/-- an object is made -/
theorem mk_ok (A : SS h a room d) (D : Dv h 0) (E : DE h a room d P) (c63 : d.c ≤ 63) (nf : ¬ (d.Y.length : Int) = room) {w : Int} {qv : Nat} {a7 a8 a9 a10 a11 a12 a13 a14 : Option Val} :
    Ret (k + 5) r__law_deed_3 (denv a room w qv a7 a8 a9 a10 a11 a12 a13 a14) h P := by
  have l8 := A.l8
  have sz := A.I.sz
  have ly : d.Y.length + d.O.length < 64 := by unfold Da.c at c63; omega
  unfold Ret denv
  simp [r__law_deed_3]
  refine made_ok (k := k + 2) D A.g A.ne0 (by omega) ?_
  intro x h1 hx lx D1 f1
  have A1 := A.dr f1
  simp [idx_loc A1.M.m_, (mtT_loc A1.M.y_).1]
  rw [mt_append A1.M.y_ (by simp [sizeLine]; omega)]
  have e1 : d.Y.map Ob.v ++ [x.v] = (d.Y ++ [x]).map Ob.v := by simp
  rw [e1]
  have f2 : FrS [a.my] h1 (h1.set a.my (.lst ((d.Y ++ [x]).map Ob.v))) := FrS.set _ _ (by simp)
  have nm := A.M.ne
  have M2 : MD (h1.set a.my (.lst ((d.Y ++ [x]).map Ob.v))) a.m a.my a.mo a.mr (d.Y ++ [x]) d.O d.R :=
    ⟨f2.get A1.M.m_ (by simp [nm.1]), List.getElem?_set_self (get_lt A1.M.y_), f2.get A1.M.o_ (by simp [Ne.symm nm.2.2.2.1]), f2.get A1.M.r_ (by simp [Ne.symm nm.2.2.2.2.1]), A.M.nd⟩
  have S2 := A1.S.frl f2 fun p hp m => A.dj p hp a.my (by simp [Ad.q]) (List.mem_singleton.mp m)
  have g2 := f2.get A1.g (notm fun y hy => by rw [List.mem_singleton.mp hy]; exact (A.rl a.my (by simp [Ad.q])).symm)
  have D2 := D1.fr f2 (notm fun y hy => by rw [List.mem_singleton.mp hy]; exact (A.z a.my (by simp [Ad.l, Ad.q])).symm)
  have f02 : FrS [0, a.my] h (h1.set a.my (.lst ((d.Y ++ [x]).map Ob.v))) := (f1.mono (by simp)).trans f2 (fun z hz => .inl (by simp at hz; simp [hz]))
  generalize h1.set a.my (.lst ((d.Y ++ [x]).map Ob.v)) = h2 at *
  simp [idx_loc M2.m_, bi_lenL M2.y_, tk2]
  have x0 : ∀ {g : MH}, idxR x.v (.int 0) g = .ok (.str x.kind) g := by intro g; simp [Ob.v]
  have x1 : ∀ {g : MH}, idxR x.v (.int 1) g = .ok x.word.v g := by intro g; simp [Ob.v]
  have x2 : ∀ {g : MH}, idxR x.v (.int 2) g = .ok (.tup (x.fs.map F.v)) g := by intro g; simp [Ob.v]
  show Ok (lstR [(F.at (-((d.Y.length : Int) + 1))).v] h2) fun a_1 h => Ok (binV .Add (.loc a.rl) a_1 h) fun a_2 h => Ok (slcV h a_2 (some (-8)) none) fun a_3 h =>
        (isObj h (Val.loc a.n) "Heap" "make" = true → Ok (idxR x.v (Val.int 0) h) fun a_5 h => Ok (idxR x.v (Val.int 1) h) fun a_6 h => Ok (idxR x.v (Val.int 2) h) fun a_7 h =>
                  Ok (callK ft (k + 5) i_Heap_make [Val.loc a.n, a_5, a_6, a_7] h) fun a h => Ok (cmpR CmpOp.Eq a (F.at (-((d.Y.length : Int) + 1))).v h) fun a h => P (Val.tup [a_3, a]) h) ∧
          (isObj h (Val.loc a.n) "Heap" "make" = false → Ok R.no fun a h => Ok (cmpR CmpOp.Eq a (F.at (-((d.Y.length : Int) + 1))).v h) fun a h => P (Val.tup [a_3, a]) h)
  have vf : Vd (d.Y ++ [x]).length d.O.length (F.at (-((d.Y.length : Int) + 1))) := by
    show if (-((d.Y.length : Int) + 1)) < 0 then (-(-((d.Y.length : Int) + 1)) - 1).toNat < (d.Y ++ [x]).length else (-((d.Y.length : Int) + 1)).toNat < d.O.length
    rw [if_pos (by omega)]
    simp
  generalize hf : F.at (-((d.Y.length : Int) + 1)) = f at *
  rw [lstR_ok (xs := [f.v]) (by simp [sizeLine])]
  refine Ok_ok.2 ?_
  rw [add_loc (n := a.rl) (m := h2.length) (xs := d.fs.map F.v) (ys := [f.v]) (get_app g2) (by simp) (by simp [sizeLine]; omega)]
  refine Ok_ok.2 ?_
  have e3 : d.fs.map F.v ++ [f.v] = (d.fs ++ [f]).map F.v := by simp
  rw [e3, slc_loc (xs := (d.fs ++ [f]).map F.v) (by simp), cut_last8, ← List.map_drop]
  refine Ok_ok.2 ?_
  generalize hn : (d.fs ++ [f]).drop (((d.fs ++ [f]).map F.v).length - 8) = nr
  have lnr : nr.length ≤ 8 := by rw [← hn]; simp; omega
  have mnr : ∀ z ∈ nr, z ∈ d.fs ∨ z = f := fun z hz => by
    rw [← hn] at hz
    rcases List.mem_append.mp (List.mem_of_mem_drop hz) with q | q
    · exact .inl q
    · exact .inr (List.mem_singleton.mp q)
  have e4 : (h2 ++ [MO.lst [f.v]] ++ [MO.lst ((d.fs ++ [f]).map F.v)]).length = h2.length + 2 := by simp
  rw [e4]
  have e5 : h2 ++ [MO.lst [f.v]] ++ [MO.lst ((d.fs ++ [f]).map F.v)] ++ [MO.lst (nr.map F.v)] = h2 ++ [MO.lst [f.v], MO.lst ((d.fs ++ [f]).map F.v), MO.lst (nr.map F.v)] := by simp
  rw [e5]
  have f3 : FrS [] h2 (h2 ++ [MO.lst [f.v], MO.lst ((d.fs ++ [f]).map F.v), MO.lst (nr.map F.v)]) := FrS.app _ _ _
  have g3 : (h2 ++ [MO.lst [f.v], MO.lst ((d.fs ++ [f]).map F.v), MO.lst (nr.map F.v)])[h2.length + 2]? = some (.lst (nr.map F.v)) := by simp
  generalize h2 ++ [MO.lst [f.v], MO.lst ((d.fs ++ [f]).map F.v), MO.lst (nr.map F.v)] = h3 at *
  have S3 := S2.frl f3 (by simp)
  have M3 := M2.frl f3 (by simp)
  have iO := isObj_ok (m := "make") S3.ob
  refine ⟨fun _ => ?_, fun z => ?_⟩
  · simp only [x0, x1, x2, Ok_ok]
    have q := @make_ok h3 a.n a.y a.o a.r (k + 4) room d.Y d.O d.R x
    refine q S3 (by omega) ?_
    intro h4 S4 f4
    rw [hf, eq_F]
    refine Ok_ok.2 ?_
    have M4 := M3.frl f4 fun p hp m => A.dj a.y (by simp [Ad.p]) p hp (List.mem_singleton.mp m).symm
    have l2 := f02.1
    have l3 := f3.1
    have lty : a.y < h.length := A.lt a.y (by simp [Ad.l, Ad.p])
    have g4 := f4.get g3 (by simp; omega)
    have fr : FrS [0, a.my, a.y] h h4 := ((f02.mono (by simp)).trans f3 (by simp)).trans f4 (fun z hz => .inl (by simp at hz; simp [hz]))
    have hl := A.lt
    refine E h4 { a with rl := h2.length + 2 } { Y := d.Y ++ [x], O := d.O, R := d.R, fs := nr } ⟨S4, M4, g4, A.I.make (fun z hz => ?_) lx ly, fun z hz => ?_, lnr, ?_, A.dj, fun p hp => ?_, fun p hp => ?_⟩ ?_ (Nw.ro (by omega)) ?_ (fr.mono fun p hp => by simp at hp; simp [Ad.l, Ad.p, Ad.q]; omega)
    · rcases hx z hz with q | q
      · exact A.v z q
      · cases z with
        | «at» _ => cases q
        | _ => trivial
    · rcases mnr z hz with q | rfl
      · exact (A.v z q).mono (by simp) (Nat.le_refl _)
      · exact vf
    · show ((d.Y ++ [x]).length : Int) ≤ room
      have := A.ry
      simp; omega
    · have hp : p ∈ a.p ++ a.q := hp
      have := hl p (by simp only [Ad.l]; exact List.mem_append_left _ hp)
      show p ≠ h2.length + 2
      omega
    · have hp : p ∈ a.p ++ a.q ++ [h2.length + 2] := hp
      rcases List.mem_append.mp hp with q | q
      · exact A.z p (by simp only [Ad.l]; exact List.mem_append_left _ q)
      · rw [List.mem_singleton.mp q]; omega
    · exact (D2.fr f3 (by simp)).fr f4 (by simp; exact (A.z a.y (by simp [Ad.l, Ad.p])).symm)
    · show (d.Y ++ [x]).length + d.O.length + d.R.length ≤ d.Y.length + d.O.length + d.R.length + 1
      simp; omega
  · rw [iO] at z
    cases z
end
end Gu
end

section
set_option linter.all false
set_option Elab.async false
set_option maxHeartbeats 1000000
namespace Gu
open PySem L2
/-! k56: the deed's collections -/
@[simp] theorem bi_intB {b : Bool} {h : MH} : biV .int [.bl b] h = .ok (.int (if b then 1 else 0)) h := rfl
section
variable {h : MH} {a : Ad} {room : Int} {d : Da} {k : Nat} {P : Val → MH → Prop} {N B C : Rho → MH → Prop}
theorem fin_ok {rl hd Dd : Nat} {fs fs2 fs' : List F} {v0 v1 v2 v4 v5 v6 v7 v8 v9 v10 v14 : Option Val} (gr : h[rl]? = some (.lst (fs.map F.v))) (gh : h[hd]? = some (.lst (fs2.map F.v))) (gd : h[Dd]? = some (.lst (fs'.map F.v))) (len : fs'.length = fs2.length) (le : fs.length ≤ fs2.length) (sm : fs2.length ≤ 100)
    (H : ∀ (h' : MH) (L : Nat) (nr : List F), FrS [] h h' → h.length ≤ L → h'[L]? = some (.lst (nr.map F.v)) → nr.length = fs.length → (∀ f ∈ nr, f ∈ fs') → P (.tup [.loc L, .bl true]) h') :
    OkS (evS (callK ft k) r__law_deed_1 [v0, v1, v2, some (.loc rl), v4, v5, v6, v7, v8, v9, v10, some (.loc hd), some (.tup (fs'.map F.v)), some (.loc Dd), v14] h) N P B C := by
  simp [r__law_deed_1, bi_lenL gr]
  rw [slc_loc gd, cut_to (n := fs.length) rfl, ← List.map_take]
  simp only [Ok_ok]
  have g1 : ∀ {i : Nat} {o : MO}, h[i]? = some o → (h ++ [MO.lst ((fs'.take fs.length).map F.v)])[i]? = some o := fun e => get_app e
  have gn : (h ++ [MO.lst ((fs'.take fs.length).map F.v)])[h.length]? = some (.lst ((fs'.take fs.length).map F.v)) := by simp
  have lt : (fs'.take fs.length).length = fs.length := by simp; omega
  have f1 : FrS [] h (h ++ [MO.lst ((fs'.take fs.length).map F.v)]) := FrS.app _ _ _
  have l1 : (h ++ [MO.lst ((fs'.take fs.length).map F.v)]).length = h.length + 1 := by simp
  generalize h ++ [MO.lst ((fs'.take fs.length).map F.v)] = h1 at *
  simp [bi_lenL (g1 gh), bi_lenL (g1 gr)]
  by_cases c : fs.length < fs2.length
  · have c' : ((fs.length : Int) < (fs2.length : Int)) := by omega
    have em : binV .Mult (.int 2) (.int 1) h1 = .ok (.int 2) h1 := rfl
    simp only [c, c', if_true, em, Ok_ok]
    have es : binV .Sub (.int 1) (.int 2) h1 = .ok (.int (-1)) h1 := rfl
    simp only [bin_sub, Ok_ok, show ((1 : Int) - 2) = -1 by decide]
    rw [stp_m gn, ← List.map_reverse]
    simp only [Ok_ok]
    have f2 : FrS [] h1 (h1 ++ [MO.lst ((fs'.take fs.length).reverse.map F.v)]) := FrS.app _ _ _
    have g2 : (h1 ++ [MO.lst ((fs'.take fs.length).reverse.map F.v)])[h1.length]? = some (.lst ((fs'.take fs.length).reverse.map F.v)) := by simp
    have gd2 : (h1 ++ [MO.lst ((fs'.take fs.length).reverse.map F.v)])[Dd]? = some (.lst (fs'.map F.v)) := get_app (g1 gd)
    rw [bi_tupL gd2]
    simp only [Ok_ok, eq_tup, tk2]
    exact H _ h1.length _ (f1.trans f2 (by simp)) (by omega) g2 (by simp; omega) (fun f hf => List.mem_of_mem_take (List.mem_reverse.mp hf))
  · have c' : ¬ ((fs.length : Int) < (fs2.length : Int)) := by omega
    have em : binV .Mult (.int 2) (.int 0) h1 = .ok (.int 0) h1 := rfl
    simp only [c, c', if_false, em, Ok_ok]
    simp only [bin_sub, Ok_ok, show ((1 : Int) - 0) = 1 by decide]
    rw [stp_1 gn]
    simp only [Ok_ok]
    have f2 : FrS [] h1 (h1 ++ [MO.lst ((fs'.take fs.length).map F.v)]) := FrS.app _ _ _
    have g2 : (h1 ++ [MO.lst ((fs'.take fs.length).map F.v)])[h1.length]? = some (.lst ((fs'.take fs.length).map F.v)) := by simp
    have gd2 : (h1 ++ [MO.lst ((fs'.take fs.length).map F.v)])[Dd]? = some (.lst (fs'.map F.v)) := get_app (g1 gd)
    rw [bi_tupL gd2]
    simp only [Ok_ok, eq_tup, tk2]
    exact H _ h1.length _ (f1.trans f2 (by simp)) (by omega) g2 lt (fun f hf => List.mem_of_mem_take hf)
theorem isObj_ap {h : MH} {n y o r : Nat} {Y O : List Ob} {R : List Int} {m : Str} (S : HS h n y o r room Y O R) (l : (hfs room y o r).lookup m = none) : isObj h (.loc n) "Heap" m = true := by
  simp [isObj, S.ob, l]
/-- behind both collections -/
theorem col_end {h1 h2 : MH} {y1 o1 r1 my2 mo2 mr2 hd Dd : Nat} {O' : List Ob} {fs2 fs' : List F} {w : Int} {qv : Nat} {a7 a8 a9 a10 a14 : Option Val} (A : SS h a room d) (D : Dv h 0) (E : DE h a room d P)
    (gh : h[hd]? = some (.lst (fs2.map F.v))) (hdn : hd ∉ [a.n, a.o] ∧ hd ∉ [a.m, a.mo]) (le : d.fs.length ≤ fs2.length) (sm : fs2.length ≤ 20)
    (S1 : HS h1 a.n y1 o1 r1 room [] O' []) (f1 : FrS [a.n, a.o] h h1) (ly : h.length ≤ y1) (lo : o1 = a.o ∨ h.length ≤ o1) (lr : h.length ≤ r1)
    (M2 : MD h2 a.m my2 mo2 mr2 [] O' []) (f2 : FrS [a.m, a.mo] h1 h2) (lmy : h1.length ≤ my2) (lmo : mo2 = a.mo ∨ h1.length ≤ mo2) (lmr : h1.length ≤ mr2)
    (gd : h2[Dd]? = some (.lst (fs'.map F.v))) (len : fs'.length = fs2.length) (ho : ∀ f ∈ fs', Old O'.length f) (hO : ∀ o ∈ O', (∀ f ∈ o.fs, Old O'.length f) ∧ o.fs.length ≤ 4) (lO : O'.length ≤ d.Y.length + d.O.length) :
    OkS (evS (callK ft k) r__law_deed_1 [some (.loc 0), some (.loc a.n), some (.loc a.m), some (.loc a.rl), some (.int room), some (.int w), some (.loc qv), a7, a8, a9, a10, some (.loc hd), some (.tup (fs'.map F.v)), some (.loc Dd), a14] h2) N P B C := by
  have lt := A.lt
  have hp : ∀ p ∈ [a.n, a.y, a.o, a.r, a.m, a.my, a.mo, a.mr, a.rl], p < h.length ∧ p ≠ 0 := fun p hp => by
    have : p ∈ a.l := by simp only [Ad.l, Ad.p, Ad.q]; exact hp
    exact ⟨lt p this, A.z p this⟩
  have l1 := f1.1
  have l2 := f2.1
  have dj := A.dj
  have e1 : a.n ≠ a.m ∧ a.n ≠ a.mo ∧ a.o ≠ a.m ∧ a.o ≠ a.mo := ⟨dj _ (by simp [Ad.p]) _ (by simp [Ad.q]), dj _ (by simp [Ad.p]) _ (by simp [Ad.q]), dj _ (by simp [Ad.p]) _ (by simp [Ad.q]), dj _ (by simp [Ad.p]) _ (by simp [Ad.q])⟩
  have e2 : a.n ≠ a.rl ∧ a.o ≠ a.rl ∧ a.m ≠ a.rl ∧ a.mo ≠ a.rl := ⟨A.rl _ (by simp [Ad.p]), A.rl _ (by simp [Ad.p]), A.rl _ (by simp [Ad.q]), A.rl _ (by simp [Ad.q])⟩
  have zn := (hp a.n (by simp)); have zo := hp a.o (by simp); have zm := hp a.m (by simp); have zmo := hp a.mo (by simp); have zrl := hp a.rl (by simp)
  have gr2 : h2[a.rl]? = some (.lst (d.fs.map F.v)) := f2.get (f1.get A.g (by simp; omega)) (by simp; omega)
  have gh2 : h2[hd]? = some (.lst (fs2.map F.v)) := f2.get (f1.get gh hdn.1) hdn.2
  have q1 := get_lt S1.y_
  have q2 := get_lt S1.o_
  have q3 := get_lt S1.r_
  have hP : ∀ p ∈ [a.n, y1, o1, r1], p = a.n ∨ p = a.o ∨ (h.length ≤ p ∧ p < h1.length) := fun p hp => by
    simp at hp
    rcases hp with hp | hp | hp | hp
    · exact .inl hp
    · exact .inr (.inr (by omega))
    · rcases lo with e | e
      · exact .inr (.inl (by omega))
      · exact .inr (.inr (by omega))
    · exact .inr (.inr (by omega))
  have s1 := get_lt M2.y_
  have s2 := get_lt M2.o_
  have s3 := get_lt M2.r_
  have hQ : ∀ p ∈ [a.m, my2, mo2, mr2], p = a.m ∨ p = a.mo ∨ (h1.length ≤ p ∧ p < h2.length) := fun p hp => by
    simp at hp
    rcases hp with hp | hp | hp | hp
    · exact .inl hp
    · exact .inr (.inr (by omega))
    · rcases lmo with e | e
      · exact .inr (.inl (by omega))
      · exact .inr (.inr (by omega))
    · exact .inr (.inr (by omega))
  refine fin_ok gr2 gh2 gd len le (by omega) ?_
  intro h3 L nr f3 lL gL lnr mnr
  have S2 : HS h2 a.n y1 o1 r1 room [] O' [] := S1.frl f2 fun p hp m => by
    have hp := hP p hp
    simp at m
    omega
  have S3 := S2.frl f3 (by simp)
  have M3 := M2.frl f3 (by simp)
  have D3 : Dv h3 0 := ((D.fr f1 (by simp; omega)).fr f2 (by simp; omega)).fr f3 (by simp)
  have sz := A.I.sz
  have fr : FrS [a.n, a.o, a.m, a.mo] h h3 := ((f1.mono (by simp)).trans f2 (fun z hz => .inl (by simp at hz ⊢; omega))).trans f3 (by simp)
  refine E h3 ⟨a.n, y1, o1, r1, a.m, my2, mo2, mr2, L⟩ ⟨[], O', [], nr⟩ ⟨S3, M3, gL, A.I.nil hO lO, fun f hf => (ho f (mnr f hf)).vd, by show nr.length ≤ 8; rw [lnr]; exact A.l8, ?_, ?_, ?_, ?_⟩ D3 ⟨rfl, rfl, ?_⟩ ?_ (fr.mono fun p hp => by simp at hp; simp [Ad.l, Ad.p, Ad.q]; omega)
  · show ((([] : List Ob).length : Nat) : Int) ≤ room
    have := A.ry
    simp; omega
  · intro p hp q hq
    have hp := hP p hp
    have hq := hQ q hq
    omega
  · intro p hp
    show p ≠ L
    rcases List.mem_append.mp hp with hp | hp
    · have hp := hP p hp
      omega
    · have hp := hQ p hp
      omega
  · intro p hp
    rcases List.mem_append.mp hp with hp | hp
    · rcases List.mem_append.mp hp with hp | hp
      · have hp := hP p hp
        omega
      · have hp := hQ p hp
        omega
    · have := List.mem_singleton.mp hp
      have : p = L := this
      omega
  · intro p hp
    have il : ∀ {p : Nat}, p ∈ [a.n, a.o, a.m, a.mo] → p ∈ a.l := fun {p} hp => by
      simp at hp
      rcases hp with rfl | rfl | rfl | rfl <;> simp [Ad.l, Ad.p, Ad.q]
    rcases List.mem_append.mp hp with hp | hp
    · rcases List.mem_append.mp hp with hp | hp
      · rcases hP p hp with rfl | rfl | q
        · exact .inl (il (by simp))
        · exact .inl (il (by simp))
        · exact .inr q.1
      · rcases hQ p hp with rfl | rfl | q
        · exact .inl (il (by simp))
        · exact .inl (il (by simp))
        · exact .inr (by omega)
    · have : p = L := List.mem_singleton.mp hp
      exact .inr (by omega)
  · show ([] : List Ob).length + O'.length + ([] : List Int).length ≤ d.Y.length + d.O.length + d.R.length + 1
    simp; omega
theorem coll_ok {hd : Nat} {fs2 : List F} {w : Int} {qv : Nat} {a7 a8 a9 a10 a12 a13 a14 : Option Val} (A : SS h a room d) (D : Dv h 0) (E : DE h a room d P) (c63 : d.c ≤ 63)
    (gh : h[hd]? = some (.lst (fs2.map F.v))) (hdn : ∀ p ∈ a.p ++ a.q, p ≠ hd) (v2 : ∀ f ∈ fs2, Vd d.Y.length d.O.length f) (le : d.fs.length ≤ fs2.length) (sm : fs2.length ≤ 20) :
    OkS (evS (callK ft (k + 5)) r__law_deed_2 [some (.loc 0), some (.loc a.n), some (.loc a.m), some (.loc a.rl), some (.int room), some (.int w), some (.loc qv), a7, a8, a9, a10, some (.loc hd), a12, a13, a14] h) N P B C := by
  have dj := A.dj
  have hn : hd ∉ [a.n, a.o] ∧ hd ∉ [a.m, a.mo] := by
    have h1 := hdn a.n (by simp [Ad.p]); have h2 := hdn a.o (by simp [Ad.p]); have h3 := hdn a.m (by simp [Ad.q]); have h4 := hdn a.mo (by simp [Ad.q])
    simp; omega
  have ly : d.Y.length + d.O.length < 64 := by unfold Da.c at c63; omega
  have mfr : ∀ {h1 : MH}, FrS [a.n, a.o] h h1 → MD h1 a.m a.my a.mo a.mr d.Y d.O d.R := fun f1 => A.M.frl f1 fun q hq m => by
    have hq : q ∈ a.q := hq
    simp at m
    rcases m with rfl | rfl
    · exact dj _ (by simp [Ad.p]) _ hq rfl
    · exact dj _ (by simp [Ad.p]) _ hq rfl
  simp [r__law_deed_2]
  constructor
  · intro _
    obtain ⟨fs', O', M, ho, len, hO, lO⟩ := A.I.major ly v2 sm
    simp [bi_tupL gh, isObj_ap A.S (m := "major") (by rfl)]
    refine major_ok (k := k) M A.S (by omega) ?_
    intro h1 y1 o1 r1 S1 f1 l1 l2 l3
    refine lmajor_ok (k := k + 1) M (mfr f1) (f1.get gh hn.1) (by omega) (by have := hn.2; simp at this; omega) ?_
    intro h2 Dd my2 mo2 mr2 M2 f2 m1 m2 m3 m4 gd
    have := col_end (N := N) (B := B) (C := C) (k := k + 5) (w := w) (qv := qv) (a7 := a7) (a8 := a8) (a9 := a9) (a10 := a10) (a14 := a14) A D E gh hn le sm S1 f1 l1 (.inr l2) l3 M2 f2 m1 (.inr m2) m3 gd len ho hO lO
    exact this
  · intro _
    obtain ⟨fs', O', M, ho, len, hO, lO⟩ := A.I.minor v2
    simp [bi_tupL gh, isObj_ap A.S (m := "minor") (by rfl)]
    refine minor_ok (k := k + 1) M A.S (by omega) ?_
    intro h1 y1 r1 S1 f1 l1 l3
    refine lminor_ok (k := k + 2) M (mfr f1) (f1.get gh hn.1) (by omega) (by have := hn.2; simp at this; omega) ?_
    intro h2 Dd my2 mr2 M2 f2 m1 m3 m4 gd
    have := col_end (N := N) (B := B) (C := C) (k := k + 5) (w := w) (qv := qv) (a7 := a7) (a8 := a8) (a9 := a9) (a10 := a10) (a14 := a14) A D E gh hn le sm S1 f1 l1 (.inl rfl) l3 M2 f2 m1 (.inl rfl) m3 gd len ho hO lO
    exact this
end
end Gu
end

section
set_option linter.all false
set_option Elab.async false
set_option maxHeartbeats 1000000
namespace Gu
open PySem L2
/-! k56: a deed -/
section
variable {h : MH} {a : Ad} {room : Int} {d : Da} {k : Nat} {P : Val → MH → Prop} {N B C : Rho → MH → Prop}
theorem r4_ok {w : Int} {qv : Nat} {a7 a8 a9 a10 a11 a12 a13 a14 : Option Val} (A : SS h a room d) (D : Dv h 0) (E : DE h a room d P) (c63 : d.c ≤ 63) :
    OkS (evS (callK ft (k + 5)) r__law_deed_4 (denv a room w qv a7 a8 a9 a10 a11 a12 a13 a14) h) (fun _ h => P .non h) P (fun _ _ => False) (fun _ _ => False) := by
  unfold denv
  simp [r__law_deed_4, idx_loc A.M.m_, bi_lenL A.M.y_, tk2]
  refine ⟨fun _ => E h a d A D .refl (by omega) (FrS.refl _ _), fun nf => ?_⟩
  have := mk_ok (k := k) (w := w) (qv := qv) (a7 := a7) (a8 := a8) (a9 := a9) (a10 := a10) (a11 := a11) (a12 := a12) (a13 := a13) (a14 := a14) A D E c63 nf
  exact this
theorem hand_ok {w : Int} {qv : Nat} {a7 a8 a9 a10 a12 a13 a14 : Option Val} (A : SS h a room d) (D : Dv h 0) (E : DE h a room d P) (c63 : d.c ≤ 63) :
    OkS (evS (callK ft (k + 5)) (.seq (.ite (.cmp .Eq (.call i__law_take (.cons (.var 0) (.cons (.cst (.int 3)) .nil))) (.cst (.int 0)))
     (.seq (.asg (.nt (.nm 11)) (.bin .Add (.bin .Add (.rev (.var 3)) (.slc (.var 3) .nil (.cst (.int 1)))) (.lst (.cons (.tup (.cons (.cst (.str [105, 110, 116])) (.cons (.cst (.int 5)) .nil))) (.cons (.tup (.cons (.cst (.str [116, 97, 103])) (.cons (.cst (.int 1)) .nil))) .nil)))))
     .skip)
     .skip)
   r__law_deed_2) (denv a room w qv a7 a8 a9 a10 (some (.loc a.rl)) a12 a13 a14) h) N P B C := by
  have l8 := A.l8
  unfold denv
  simp
  apply take_ok D (by decide) (by decide)
  intro c h1 _ D1 f1
  have A1 := A.dr f1
  have E1 := E.dr f1
  simp
  refine ⟨fun _ => ?_, fun _ => ?_⟩
  · rw [rev_loc A1.g]
    simp only [Ok_ok]
    have g1 : (h1 ++ [MO.lst (d.fs.map F.v).reverse])[a.rl]? = some (.lst (d.fs.map F.v)) := get_app A1.g
    rw [slc_loc g1, cut_to (n := 1) (i := 1) rfl]
    simp only [Ok_ok]
    rw [add_loc (n := h1.length) (m := (h1 ++ [MO.lst (d.fs.map F.v).reverse]).length) (xs := (d.fs.map F.v).reverse) (ys := (d.fs.map F.v).take 1) (by rw [List.append_assoc]; simp) (by simp) (by simp [sizeLine]; omega)]
    simp only [Ok_ok, tk2]
    rw [lstR_ok (xs := [_, _]) (by simp [sizeLine])]
    simp only [Ok_ok]
    generalize hk : h1 ++ [MO.lst (d.fs.map F.v).reverse] ++ [MO.lst ((d.fs.map F.v).take 1)] = h2
    have f2 : FrS [] h1 h2 := by rw [← hk, List.append_assoc]; exact FrS.app _ _ _
    have e5 : Val.tup [.str [105, 110, 116], .int 5] = (F.int 5).v := rfl
    have e1 : Val.tup [.str [116, 97, 103], .int 1] = (F.tag 1).v := rfl
    rw [e5, e1]
    rw [add_loc (n := h2.length) (m := (h2 ++ [MO.lst ((d.fs.map F.v).reverse ++ (d.fs.map F.v).take 1)]).length) (xs := (d.fs.map F.v).reverse ++ (d.fs.map F.v).take 1) (ys := [(F.int 5).v, (F.tag 1).v]) (by rw [List.append_assoc]; simp) (by simp) (by simp [sizeLine]; omega)]
    simp only [Ok_ok]
    have e2 : (d.fs.map F.v).reverse ++ (d.fs.map F.v).take 1 ++ [(F.int 5).v, (F.tag 1).v] = (d.fs.reverse ++ d.fs.take 1 ++ [F.int 5, F.tag 1]).map F.v := by simp
    rw [e2]
    generalize hm : h2 ++ [MO.lst ((d.fs.map F.v).reverse ++ (d.fs.map F.v).take 1)] ++ [MO.lst [(F.int 5).v, (F.tag 1).v]] = h3
    have f3 : FrS [] h2 h3 := by rw [← hm, List.append_assoc]; exact FrS.app _ _ _
    have f4 : FrS [] h1 (h3 ++ [MO.lst ((d.fs.reverse ++ d.fs.take 1 ++ [F.int 5, F.tag 1]).map F.v)]) := (f2.trans f3 (by simp)).trans (FrS.app [] _ _) (by simp)
    have l2 := f2.1
    have l3 := f3.1
    have A4 := A1.ap f4
    have q := coll_ok (N := N) (B := B) (C := C) (k := k) (hd := h3.length) (fs2 := d.fs.reverse ++ d.fs.take 1 ++ [F.int 5, F.tag 1]) (w := w) (qv := qv) (a7 := a7) (a8 := a8) (a9 := a9) (a10 := a10) (a12 := a12) (a13 := a13) (a14 := a14) A4 (D1.fr f4 (by simp)) (E1.ap f4) c63 (by simp) (fun p hp => by
      have := A1.lt p (by simp only [Ad.l]; exact List.mem_append_left _ hp)
      omega) (fun f hf => by
      simp at hf
      rcases hf with hf | hf | rfl | rfl
      · exact A.v f hf
      · exact A.v f (List.mem_of_mem_take hf)
      · trivial
      · trivial) (by simp) (by simp; omega)
    simpa using q
  · have q := coll_ok (N := N) (B := B) (C := C) (k := k) (hd := a.rl) (fs2 := d.fs) (w := w) (qv := qv) (a7 := a7) (a8 := a8) (a9 := a9) (a10 := a10) (a12 := a12) (a13 := a13) (a14 := a14) A1 D1 E1 c63 A1.g A.rl A.v (Nat.le_refl _) (by omega)
    exact q
theorem r5_ok {w : Int} {qv : Nat} {a7 a8 a9 a10 a11 a12 a13 a14 : Option Val} (A : SS h a room d) (D : Dv h 0) (E : DE h a room d P) (c63 : d.c ≤ 63) :
    OkS (evS (callK ft (k + 5)) r__law_deed_5 (denv a room w qv a7 a8 a9 a10 a11 a12 a13 a14) h) (fun _ h => P .non h) P (fun _ _ => False) (fun _ _ => False) := by
  have r4 := r4_ok (k := k) (w := w) (qv := qv) (a7 := a7) (a8 := a8) (a9 := a9) (a10 := a10) (a11 := a11) (a12 := a12) (a13 := a13) (a14 := a14) A D E c63
  have ha := hand_ok (N := fun ρ h => OkS (evS (callK ft (k + 5)) r__law_deed_4 ρ h) (fun _ h => P .non h) P (fun _ _ => False) (fun _ _ => False)) (B := fun _ _ => False) (C := fun _ _ => False) (k := k) (w := w) (qv := qv) (a7 := a7) (a8 := a8) (a9 := a9) (a10 := a10) (a12 := a12) (a13 := a13) (a14 := a14) A D E c63
  unfold denv at *
  unfold r__law_deed_5
  rw [e_seq, OkS_then, e_ite, OkS_toS]
  have hc : Ok ((ev (callK ft (k + 5)) (.or_ (.cmp .In (.var 5) (.tup (.cons (.cst (.int 3)) (.cons (.cst (.int 4)) .nil)))) (.and_ (.cmp .Eq (.blt .len (.cons (.idx (.var 2) (.cst (.int 0))) .nil)) (.var 4)) (.cmp .Gt (.var 5) (.cst (.int 4)))))).t [some (.loc 0), some (.loc a.n), some (.loc a.m), some (.loc a.rl), some (.int room), some (.int w), some (.loc qv), a7, a8, a9, a10, a11, a12, a13, a14] h) fun _ h' => h' = h := by
    simp [tk2, cmp_in34]
    intro _ _
    simp [idx_loc A.M.m_, bi_lenL A.M.y_]
  refine hc.mono ?_
  rintro b h' rfl
  cases b with
  | true =>
    simp only [if_true]
    rw [e_seq, OkS_then, e_asg, OkS_toS]
    simp only [v_var, Ok_ok, R.ofO_some, List.getElem?_cons_succ, List.getElem?_cons_zero, Option.join, Option.bind_some, id, Ok_some]
    rw [asgR_nm, OkS_nx]
    exact ha
  | false =>
    simp only [Bool.false_eq_true, if_false, e_skip, OkS_nx]
    exact r4
theorem r6_ok {w : Int} {ql : Nat} {qs : List Int} {a7 a8 a9 a10 a11 a12 a13 a14 : Option Val} (A : SS h a room d) (D : Dv h 0) (E : DE h a room d P) (c63 : d.c ≤ 63) (gq : h[ql]? = some (.lst (qs.map aV))) (zq : ql ≠ 0) (lq : qs.length ≤ 8) (hq : ∀ q ∈ qs, F.at q ∈ d.fs) :
    OkS (evS (callK ft (k + 5)) r__law_deed_6 (denv a room w ql a7 a8 a9 a10 a11 a12 a13 a14) h) (fun _ h => P .non h) P (fun _ _ => False) (fun _ _ => False) := by
  have l8 := A.l8
  have r5 := r5_ok (k := k) (w := w) (qv := ql) (a7 := a7) (a8 := a8) (a9 := a9) (a10 := a10) (a11 := a11) (a12 := a12) (a13 := a13) (a14 := a14) A D E c63
  unfold denv at *
  simp [r__law_deed_6]
  refine ⟨fun _ => ?_, fun _ => r5⟩
  simp [bi_lenL gq]
  refine ⟨fun ne => ?_, fun _ => r5⟩
  have lp : 0 < qs.length := by first | exact ne | exact List.length_pos_iff.2 ne
  apply take_ok D (by omega) (by
    have := lg (i := (qs.length : Int)) (n := 10) (by omega)
    omega)
  intro j h1 hj D1 f1
  have lj : j < qs.length := by omega
  have g1 := f1.get gq (by simpa using zq)
  have ej : atI (qs.map aV) (j : Int) = some (aV qs[j]) := atI_lt (by rw [List.getElem?_map, List.getElem?_eq_getElem lj]; rfl)
  simp [idx_loc g1, ej]
  have A1 := A.dr f1
  refine some_ok (k := k + 3) D1 A1.g A.ne0 (by omega) ?_
  intro c h2 fc D2 f2
  have st := st_ok (k := k) (N := fun ρ h => OkS (evS (callK ft (k + 5)) r__law_deed_5 ρ h) (fun _ h => P .non h) P (fun _ _ => False) (fun _ _ => False)) (B := fun _ _ => False) (C := fun _ _ => False) (w := w) (qv := ql) (a7 := a7) (a8 := a8) (a11 := a11) (a12 := a12) (a13 := a13) (a14 := a14) (A1.dr f2) D2 ((E.dr f1).dr f2) c63 (hq _ (List.getElem_mem lj)) fc
  unfold denv at st
  simp at st
  simpa [aV] using st
theorem deed_ok (A : SS h a room d) (D : Dv h 0) (E : DE h a room d P) (c63 : d.c ≤ 63) : Ok (callK ft (k + 6) i__law_deed [.loc 0, .loc a.n, .loc a.m, .loc a.rl, .int room] h) P := by
  have l8 := A.l8
  apply Ok_call (F := ⟨5, 15, b__law_deed⟩) rfl rfl (by decide)
  simp [b__law_deed]
  apply take_ok D (by decide) (by decide)
  intro w h1 hw D1 f1
  have A1 := A.dr f1
  have E1 := E.dr f1
  rw [itR_loc A1.g]
  have := refs_ok (k := k + 4) (ρ := [some (.loc 0), some (.loc a.n), some (.loc a.m), some (.loc a.rl), some (.int room), some (.int w), none, none, none, none, none, none, none, none, none]) (cnd := (.cons (.and_ (.cmp .Eq (.idx (.var 7) (.cst (.int 0))) (.cst (.str [97, 116]))) (.cmp .Eq (.idx (.call i__law_object (.cons (.var 7) (.cons (.var 2) .nil))) (.cst (.int 0))) (.cst (.str [114, 101, 102])))) .nil))
    (P := fun v h_1 => OkS (evS (callK ft (k + 5)) (.seq (.ite (.and_ (.cmp .Eq (.var 5) (.cst (.int 0))) (.cmp .Gt (.blt .len (.cons (.var 3) .nil)) (.cst (.int 0))))
   (.seq (.asg (.nt (.nm 8)) (.call i__law_take (.cons (.var 0) (.cons (.blt .len (.cons (.var 3) .nil)) .nil))))
   (.seq (.ret (.tup (.cons (.bin .Add (.slc (.var 3) .nil (.var 8)) (.slc (.var 3) (.bin .Add (.var 8) (.cst (.int 1))) .nil)) (.cons (.cst (.bl true)) .nil))))
   .skip))
   .skip)
 r__law_deed_6) [some (.loc 0), some (.loc a.n), some (.loc a.m), some (.loc a.rl), some (.int room), some (.int w), some v, none, none, none, none, none, none, none, none] h_1) (fun _ h => P .non h) P (fun _ _ => False) (fun _ _ => False)) A1 ?_ ?_ (by simp) ?_
  · simpa [Items.len] using this
  · intro f g hf
    cases f with
    | «at» _ => cases hf
    | int i => simp [F.v]
    | tag i => simp [F.v]
  · intro b g x M ex
    have e0 : ∀ {g : MH}, idxR (F.at b).v (.int 0) g = .ok (.str [97, 116]) g := by intro g; simp [F.v]
    have x0 : ∀ {g : MH}, idxR x.v (.int 0) g = .ok (.str x.kind) g := by intro g; simp [Ob.v]
    have eo : callK ft (k + 5) i__law_object [(F.at b).v, .loc a.m] g = .ok x.v g := by
      have := object_ok (k := k + 4) (P := fun v h' => v = x.v ∧ h' = g) M ex ⟨rfl, rfl⟩
      obtain ⟨v, h', e, e1, e2⟩ := this
      rw [e, e1, e2]
    simp [e0, eo, x0]
    try (by_cases c : x.kind = [114, 101, 102] <;> simp [c])
  · intro h2 qs f2 g2 lq hq
    have A2 := A1.ap f2
    have D2 := D1.fr f2 (by simp)
    have E2 := E1.ap f2
    have l1 := dv_lt D1
    have r6 := r6_ok (k := k) (w := w) (a7 := none) (a8 := none) (a9 := none) (a10 := none) (a11 := none) (a12 := none) (a13 := none) (a14 := none) A2 D2 E2 c63 g2 (by omega) lq hq
    unfold denv at r6
    simp
    refine ⟨fun _ => ?_, fun _ => r6⟩
    simp [bi_lenL A2.g]
    refine ⟨fun ne => ?_, fun _ => r6⟩
    have lp : 0 < d.fs.length := by first | exact ne | exact List.length_pos_iff.2 ne
    apply take_ok D2 (by omega) (by
      have := lg (i := (d.fs.length : Int)) (n := 10) (by omega)
      omega)
    intro g h3 hg D3 f3
    have dr := drop_ok (A2.dr f3) D3 (E2.dr f3) (g := g) (by omega)
    simp [tk2]
    exact dr
end
end Gu
end

section
set_option linter.all false
set_option Elab.async false
set_option maxHeartbeats 1000000
namespace Gu
open PySem L2
/-! k56: the law -/
theorem it_fro {xs : List Val} {h : MH} : itR (.fro xs) h = .ok (.vals xs) h := rfl
theorem draw_ok {ns : List Int} {k : Nat} {P : Val → MH → Prop} (H : ∀ a b : Int, 0 ≤ b → b < 2147483647 → P (.loc 0) [.lst [.int a, .int b]]) : Ok (callK ft (k + 1) i__law_draw [.fro (ns.map Val.int)] []) P := by
  apply Ok_call (F := ⟨1, 4, b__law_draw⟩) rfl rfl (by decide)
  simp [b__law_draw, it_fro]
  have := forV_ok (i0 := 2) (b := evS (callK ft k) w__law_draw_1) (xs := ns.map Val.int) (T := P) (B := fun _ _ => False) (C := fun _ _ => False) (N := fun ρ h => OkS (evS (callK ft k) r__law_draw_3 ρ h) (fun _ h => P .non h) P (fun _ _ => False) (fun _ _ => False))
    (fun i ρ h => h = [] ∧ ∃ (s : Int) (o : Option Val), ρ = [some (.fro (ns.map Val.int)), some (.int s), o, none] ∧ 0 ≤ s ∧ s < 2147483647) (ρ := [some (.fro (ns.map Val.int)), some (.int 12345), none, none]) (h := []) ?_ ?_ ⟨rfl, 12345, none, rfl, by omega, by omega⟩
  · simpa [Items.len] using this
  · rintro i ρ h x ex ⟨rfl, s, o, rfl, s0, s1⟩
    rw [List.getElem?_map, Option.map_eq_some_iff] at ex
    obtain ⟨c, _, rfl⟩ := ex
    have lb : s.natAbs.log2 ≤ 31 := lg (by omega)
    have l69 := lgs.2
    simp [w__law_draw_1, bin_mul (i := s) (j := 69621) (by omega), bin_mod (j := 2147483647) (by decide)]
    exact ⟨Int.emod_nonneg _ (by decide), Int.emod_lt_of_pos _ (by decide)⟩
  · rintro ρ h ⟨rfl, s, o, rfl, s0, s1⟩
    have lb : s.natAbs.log2 ≤ 31 := lg (by omega)
    have l48 := lgs.1
    have fin : ∀ a : Int, OkS (evS (callK ft k) r__law_draw_2 [some (.fro (ns.map Val.int)), some (.int s), o, some (.int a)] []) (fun _ h => P .non h) P (fun _ _ => False) (fun _ _ => False) := by
      intro a
      simp [r__law_draw_2, bin_mul (i := s) (j := 48271) (by omega), bin_mod (j := 2147483647) (by decide), lstR_ok (xs := [_, _]) (by simp [sizeLine])]
      exact H _ _ (Int.emod_nonneg _ (by decide)) (Int.emod_lt_of_pos _ (by decide))
    cases ns with
    | nil =>
      have := fin 0
      simp at this
      simp [r__law_draw_3]
      exact this
    | cons c r =>
      have f1 := fin c
      have f2 := fin 0
      simp at f1 f2
      simp [r__law_draw_3]
      exact ⟨fun _ => f1, fun _ => f2⟩
/-! equal objects -/
theorem Wd_flat (w : Wd) : Val.flat w.v = true ∧ Val.depth w.v = 0 ∧ Val.eqb w.v w.v = true := by cases w <;> simp [Wd.v, Val.flat, Val.depth, Val.eqb]
theorem ne_Ob {x : Ob} {h : MH} : cmpR .NotEq x.v x.v h = .ok (.bl false) h := by
  have h1 := Fvs_flat x.fs
  have hw := Wd_flat x.word
  have e1 : Val.flat x.v = true := by
    show (Val.flat (.str x.kind) && (Val.flat x.word.v && (Val.flats (x.fs.map F.v) && true))) = true
    rw [hw.1, h1.1]; rfl
  have e2 : Val.depth x.v ≤ 150 := by
    show max (Val.depth (.str x.kind)) (max (Val.depth x.word.v) (max (Val.depths (x.fs.map F.v) + 1) 0)) + 1 ≤ 150
    rw [hw.2.1]
    have : Val.depth (.str x.kind) = 0 := rfl
    omega
  have e3 : Val.eqb x.v x.v = true := by
    show ((x.kind == x.kind) && (Val.eqb x.word.v x.word.v && (Val.eqbs (x.fs.map F.v) (x.fs.map F.v) && true))) = true
    rw [hw.2.2, Fvs_eqb]; simp
  simp only [cmpR, cmpV]
  have e4 : eqV? h x.v x.v = some true := by
    show (if Val.flat x.v && Val.flat x.v && decide (Val.depth x.v ≤ 150) && decide (Val.depth x.v ≤ 150) then some (Val.eqb x.v x.v) else none) = _
    simp [e1, e2, e3]
  rw [e4]; rfl
/-- two sides -/
structure TW (h : MH) (L s1 s2 : Nat) (r1 r2 : Int) (a1 a2 : Ad) (d1 d2 : Da) : Prop where
  D : Dv h 0
  s1_ : h[s1]? = some (.lst [.loc a1.n, .loc a1.m, .loc a1.rl, .int r1])
  s2_ : h[s2]? = some (.lst [.loc a2.n, .loc a2.m, .loc a2.rl, .int r2])
  A1 : SS h a1 r1 d1
  A2 : SS h a2 r2 d2
  sa : ∀ x ∈ a1.l ++ a2.l, x ≠ L ∧ x ≠ s1 ∧ x ≠ s2
  sz : L ≠ 0 ∧ s1 ≠ 0 ∧ s2 ≠ 0
  ne : s1 ≠ s2 ∧ L ≠ s1 ∧ L ≠ s2
  dj : ∀ x ∈ a1.l, ∀ y ∈ a2.l, x ≠ y
  lL : L < h.length
section
variable {h h' : MH} {L s1 s2 : Nat} {r1 r2 : Int} {a1 a2 : Ad} {d1 d2 : Da} {k : Nat}
theorem TW.symm (T : TW h L s1 s2 r1 r2 a1 a2 d1 d2) : TW h L s2 s1 r2 r1 a2 a1 d2 d1 :=
  ⟨T.D, T.s2_, T.s1_, T.A2, T.A1, fun x hx => by
    have := T.sa x (by rcases List.mem_append.mp hx with q | q; exact List.mem_append_right _ q; exact List.mem_append_left _ q)
    exact ⟨this.1, this.2.2, this.2.1⟩, ⟨T.sz.1, T.sz.2.2, T.sz.2.1⟩, ⟨T.ne.1.symm, T.ne.2.2, T.ne.2.1⟩, fun x hx y hy => (T.dj y hy x hx).symm, T.lL⟩
theorem TW.ap (T : TW h L s1 s2 r1 r2 a1 a2 d1 d2) (f : FrS [] h h') : TW h' L s1 s2 r1 r2 a1 a2 d1 d2 :=
  ⟨T.D.fr f (by simp), f.get T.s1_ (by simp), f.get T.s2_ (by simp), T.A1.ap f, T.A2.ap f, T.sa, T.sz, T.ne, T.dj, Nat.lt_of_lt_of_le T.lL f.1⟩
theorem TW.dr (T : TW h L s1 s2 r1 r2 a1 a2 d1 d2) (D : Dv h' 0) (f : FrS [0] h h') : TW h' L s1 s2 r1 r2 a1 a2 d1 d2 :=
  ⟨D, f.get T.s1_ (by simpa using T.sz.2.1), f.get T.s2_ (by simpa using T.sz.2.2), T.A1.dr f, T.A2.dr f, T.sa, T.sz, T.ne, T.dj, Nat.lt_of_lt_of_le T.lL f.1⟩
/-- look and object agree -/
theorem same_ok {a : Ad} {room : Int} {d : Da} {b : Int} {P : Val → MH → Prop} {x : Ob} (A : SS h a room d) (ex : obAt d.Y d.O b = some x) (H : P x.v h) : Ok (callK ft (k + 1) i_Heap_look [.loc a.n, (F.at b).v] h) P ∧ Ok (callK ft (k + 1) i__law_object [(F.at b).v, .loc a.m] h) P :=
  ⟨look_ok A.S (obAt_if ex) H, object_ok A.M ex H⟩
theorem reach_ex {a : Ad} {room : Int} {d : Da} (A : SS h a room d) : ∃ n r, Rch d.Y d.O n [] (ats d.fs) r ∧ n < 3000 ∧ r.length ≤ 64 ∧ ∀ b ∈ r, ∃ x, obAt d.Y d.O b = some x := by
  have la := ats_len (fs := d.fs)
  have l8 := A.l8
  have sz := A.I.sz
  obtain ⟨n, r, dd, ln, nd, vr⟩ := rch_ex (Y := d.Y) (O := d.O) (fun o ho => by rcases ho with ho | ho; exact A.I.y o ho; exact A.I.o o ho) _ [] (ats d.fs) rfl (by simp) (by simp) fun b hb => A.v _ (ats_mem.mp hb)
  simp at ln
  have rl := nodup_leI (b := adrs d.Y.length d.O.length) nd fun x hx => adrs_mem (vr x hx)
  rw [adrs_len] at rl
  exact ⟨n, r, dd, by omega, by omega, fun b hb => obAt_vd (vr b hb)⟩
theorem count_ok {a : Ad} {room : Int} {d : Da} {N B C : Rho → MH → Prop} {T : Val → MH → Prop} {v0 v1 v2 v3 v5 v6 v9 v10 v11 : Option Val} (A : SS h a room d) (H : ∀ v, N [v0, v1, v2, v3, some (.int room), v5, v6, some (.loc a.n), some (.loc a.m), v9, v, v11] h) :
    OkS (evS (callK ft (k + 1)) w_law_3 [v0, v1, v2, v3, some (.int room), v5, v6, some (.loc a.n), some (.loc a.m), v9, v10, v11] h) N T B C := by
  have e1 : cmpR .NotEq (.tup [.int d.Y.length, .int d.O.length, .int d.R.length]) (.tup [.int d.Y.length, .int d.O.length, .int d.R.length]) h = .ok (.bl false) h := by
    simp [cmpR, cmpV, eqV?, Val.flat, Val.flats, Val.depth, Val.depths, Val.eqb, Val.eqbs]
  simp [w_law_3, isObj_ap A.S (m := "counts") (by rfl)]
  refine counts_ok A.S ?_
  simp [idx_loc A.M.m_, bi_lenL A.M.y_, bi_lenL A.M.o_, bi_lenL A.M.r_, tk3, e1]
  simp [r_law_2, isObj_ap A.S (m := "is_full") (by rfl)]
  refine full_ok A.S ?_
  have isb : ∀ {b : Bool} {h : MH}, isiR .bool (.bl b) h = .ok (.bl true) h := by intro b h; simp [isiR, isiV]
  have e2 : decide (room ≤ (d.Y.length : Int)) = ((d.Y.length : Int) == room) := by
    have := A.ry
    by_cases c : (d.Y.length : Int) = room
    · simp [c]
    · have h2 : ¬ room ≤ (d.Y.length : Int) := by omega
      simp [c, h2]
  simp [isb, idx_loc A.M.m_, bi_lenL A.M.y_]
  refine ⟨fun c => absurd e2 c, fun _ => H _⟩
end
end Gu
end

section
set_option linter.all false
set_option Elab.async false
set_option maxHeartbeats 1000000
namespace Gu
open PySem L2
/-! k56: a turn; the law -/
section
variable {h h' : MH} {L s1 s2 : Nat} {r1 r2 : Int} {a1 a2 : Ad} {d1 d2 : Da} {k : Nat}
theorem TW.deed (T : TW h L s1 s2 r1 r2 a1 a2 d1 d2) {a' : Ad} {d' : Da} (A' : SS h' a' r1 d') (D' : Dv h' 0) (n : Nw h a1 a') (f : FrS (0 :: a1.l) h h') :
    TW (h'.set s1 (.lst [.loc a1.n, .loc a1.m, .loc a'.rl, .int r1])) L s1 s2 r1 r2 a' a2 d' d2 ∧ h'[s1]? = some (.lst [.loc a1.n, .loc a1.m, .loc a1.rl, .int r1]) ∧ ∀ {x : MO}, h[L]? = some x → (h'.set s1 (.lst [.loc a1.n, .loc a1.m, .loc a'.rl, .int r1]))[L]? = some x := by
  have lt2 := T.A2.lt
  have ls1 := get_lt T.s1_
  have ls2 := get_lt T.s2_
  have lL := T.lL
  have n1 : ∀ {x : Nat}, (∀ y ∈ a1.l, x ≠ y) → x ≠ 0 → x ∉ 0 :: a1.l := fun {x} h1 h2 m => by
    rcases List.mem_cons.mp m with e | e
    · exact h2 e
    · exact h1 x e rfl
  have q : ∀ x ∈ a1.l, L ≠ x ∧ s1 ≠ x ∧ s2 ≠ x := fun x hx => by
    have := T.sa x (List.mem_append_left _ hx)
    exact ⟨this.1.symm, this.2.1.symm, this.2.2.symm⟩
  have g1 := f.get T.s1_ (n1 (fun y hy => (q y hy).2.1) T.sz.2.1)
  have g2 := f.get T.s2_ (n1 (fun y hy => (q y hy).2.2) T.sz.2.2)
  have f2 : FrS [s1] h' (h'.set s1 (.lst [.loc a1.n, .loc a1.m, .loc a'.rl, .int r1])) := FrS.set _ _ (by simp)
  have A2 : SS h' a2 r2 d2 := T.A2.fr f fun x hx => n1 (fun y hy => (T.dj y hy x hx).symm) (T.A2.z x hx)
  have la' : ∀ x ∈ a'.l, x ≠ L ∧ x ≠ s1 ∧ x ≠ s2 := fun x hx => by
    rcases n.l x hx with e | e
    · exact T.sa x (List.mem_append_left _ e)
    · omega
  refine ⟨⟨D'.fr f2 (by simpa using T.sz.2.1.symm), ?_, f2.get g2 (by simpa using T.ne.1.symm), A'.fr f2 fun x hx => by simpa using (la' x hx).2.1, A2.fr f2 fun x hx => by simpa using (T.sa x (List.mem_append_right _ hx)).2.1, fun x hx => ?_, T.sz, T.ne, fun x hx y hy => ?_, by simp; exact Nat.lt_of_lt_of_le lL f.1⟩, g1, fun e => ?_⟩
  · rw [List.getElem?_set_self (get_lt g1), n.n, n.m]
  · rcases List.mem_append.mp hx with e | e
    · exact la' x e
    · exact T.sa x (List.mem_append_right _ e)
  · rcases n.l x hx with e | e
    · exact T.dj x e y hy
    · have := lt2 y hy
      omega
  · exact f2.get (f.get e (n1 (fun y hy => (q y hy).1) T.sz.1)) (by simpa using T.ne.2.1)
abbrev lenv (sc : Val) (L : Nat) (v3 v4 v5 v6 v7 v8 v9 v10 v11 : Option Val) : Rho := [some sc, some (.loc 0), some (.loc L), v3, v4, v5, v6, v7, v8, v9, v10, v11]
inductive LI (sc : Val) (L : Nat) : Nat → Rho → MH → Prop
  | mk {i : Nat} {h : MH} {s1 s2 : Nat} {r1 r2 : Int} {a1 a2 : Ad} {d1 d2 : Da} {v3 v4 v5 v6 v7 v8 v9 v10 v11 : Option Val} : TW h L s1 s2 r1 r2 a1 a2 d1 d2 → h[L]? = some (.lst [.loc s1, .loc s2]) → d1.c + d2.c ≤ i → LI sc L i (lenv sc L v3 v4 v5 v6 v7 v8 v9 v10 v11) h
/-- all that is reached looks alike (in the loop) -/
theorem look_loop {sc : Val} {v3 v4 v6 v7 v8 v9 v10 v11 : Option Val} {N B C : Rho → MH → Prop} {P : Val → MH → Prop} (A : SS h a1 r1 d1) (g : h[s1]? = some (.lst [.loc a1.n, .loc a1.m, .loc a1.rl, .int r1]))
    (H : ∀ h' v, FrS [] h h' → N (lenv sc L v3 v4 (some (.loc s1)) v6 v7 v8 v9 v10 v) h') :
    OkS (evS (callK ft (k + 3)) r_law_5 (lenv sc L v3 v4 (some (.loc s1)) v6 v7 v8 v9 v10 v11) h) N P B C := by
  obtain ⟨n, r, d, ln, lr, hr⟩ := reach_ex A
  have l8 := A.l8
  simp [r_law_5, idx_loc g]
  refine lreached_ok (k := k + 1) d ln A.M (fun o ho => by rcases ho with ho | ho; exact (A.I.y o ho).2; exact (A.I.o o ho).2) A.g (by omega) ?_
  intro h2 D f2 lD g2
  rw [itR_loc g2]
  simp only [Ok_ok]
  have A2 := A.ap f2
  have gs := f2.get g (by simp)
  refine forLv_ok (fun _ ρ h' => h' = h2 ∧ ∃ v, ρ = lenv sc L v3 v4 (some (.loc s1)) v6 v7 v8 v9 v10 v) ?_ ?_ ?_ ⟨rfl, _, rfl⟩
  · rintro j ρ h' ⟨rfl, _, rfl⟩
    exact g2
  · rintro j ρ h' x ex ⟨rfl, v, rfl⟩
    rw [List.getElem?_map, Option.map_eq_some_iff] at ex
    obtain ⟨b, eb, rfl⟩ := ex
    obtain ⟨x, eo⟩ := hr b (List.mem_of_getElem? eb)
    simp [w_law_4, idx_loc gs, isObj_ap A2.S (m := "look") (by rfl)]
    refine look_ok (k := k + 2) A2.S (obAt_if eo) ?_
    simp [idx_loc gs]
    refine object_ok (k := k + 2) A2.M eo ?_
    simp [ne_Ob]
  · rintro ρ h' ⟨rfl, v, rfl⟩
    exact H _ _ f2
theorem turn1 {sc : Val} {i : Nat} {v3 v4 v6 v7 v8 v9 v10 v11 : Option Val} {P : Val → MH → Prop} {B C : Rho → MH → Prop} (T : TW h L s1 s2 r1 r2 a1 a2 d1 d2) (o : h[L]? = some (.lst [.loc s1, .loc s2]) ∨ h[L]? = some (.lst [.loc s2, .loc s1])) (c : d1.c + d2.c ≤ i) (hi : i ≤ 63) :
    OkS (evS (callK ft (k + 6)) (.seq (.asg (.sn (.var 5) (.cst (.int 2)) 6) (.call i__law_deed (.cons (.var 1) (.cons (.idx (.var 5) (.cst (.int 0))) (.cons (.idx (.var 5) (.cst (.int 1))) (.cons (.idx (.var 5) (.cst (.int 2))) (.cons (.idx (.var 5) (.cst (.int 3))) .nil)))))))
 (.seq (.ite (.not_ (.var 6))
   (.seq (.ret (.cst (.bl false)))
   .skip)
   .skip)
 r_law_6)) (lenv sc L v3 v4 (some (.loc s1)) v6 v7 v8 v9 v10 v11) h) (LI sc L (i + 1)) P B C := by
  simp [idx_loc T.s1_]
  refine deed_ok (k := k) T.A1 T.D ?_ (by omega)
  intro h1 a' d' A' D' nw cc f1
  obtain ⟨T2, g1, kp⟩ := T.deed A' D' nw f1
  simp
  rw [set_loc (j := 2) g1 rfl]
  have e0 : ([Val.loc a1.n, .loc a1.m, .loc a1.rl, .int r1].set 2 (.loc a'.rl)) = [Val.loc a1.n, .loc a1.m, .loc a'.rl, .int r1] := rfl
  rw [e0]
  have oL : (h1.set s1 (.lst [.loc a1.n, .loc a1.m, .loc a'.rl, .int r1]))[L]? = some (.lst [.loc s1, .loc s2]) ∨ (h1.set s1 (.lst [.loc a1.n, .loc a1.m, .loc a'.rl, .int r1]))[L]? = some (.lst [.loc s2, .loc s1]) := o.imp (fun e => kp e) (fun e => kp e)
  generalize h1.set s1 (.lst [.loc a1.n, .loc a1.m, .loc a'.rl, .int r1]) = h2 at *
  simp
  have g7 := T2.s1_
  have look : ∀ (v4 v7 v8 v9 v10 : Option Val), OkS (evS (callK ft (k + 6)) r_law_5 (lenv sc L v3 v4 (some (.loc s1)) (some (.bl true)) v7 v8 v9 v10 v11) h2) (LI sc L (i + 1)) P B C := by
    intro v4 v7 v8 v9 v10
    refine look_loop (k := k + 3) T2.A1 g7 ?_
    intro h' v f
    rcases oL with o | o
    · exact .mk (T2.ap f) (f.get o (by simp)) (by omega)
    · exact .mk (T2.ap f).symm (f.get o (by simp)) (by omega)
  have su : ∀ {s : Nat} {a : Ad} {r : Int} {ρ : Rho}, h2[s]? = some (.lst [.loc a.n, .loc a.m, .loc a.rl, .int r]) → setU [7, 8, 9, 4] (.loc s) h2 ρ = some ((((ρ.set 7 (some (.loc a.n))).set 8 (some (.loc a.m))).set 9 (some (.loc a.rl))).set 4 (some (.int r))) := by
    intro s a r ρ g
    simp [setU, seqL, g, setNs]
  have main : ∀ {sa sb : Nat} {ra rb : Int} {aa ab : Ad} {da db : Da}, h2[L]? = some (.lst [.loc sa, .loc sb]) → SS h2 aa ra da → SS h2 ab rb db → h2[sa]? = some (.lst [.loc aa.n, .loc aa.m, .loc aa.rl, .int ra]) → h2[sb]? = some (.lst [.loc ab.n, .loc ab.m, .loc ab.rl, .int rb]) →
      OkS (evS (callK ft (k + 6)) r_law_6 (lenv sc L v3 v4 (some (.loc s1)) (some (.bl true)) v7 v8 v9 v10 v11) h2) (LI sc L (i + 1)) P B C := by
    intro sa sb ra rb aa ab da db oL Aa Ab ga gb
    simp [r_law_6]
    rw [itR_loc oL]
    simp only [Ok_ok]
    refine forU_ok (it := .live L 2) (fun _ ρ h' => h' = h2 ∧ ∃ v4 v7 v8 v9 v10, ρ = lenv sc L v3 v4 (some (.loc s1)) (some (.bl true)) v7 v8 v9 v10 v11) ?_ ?_ 2 0 _ _ rfl ⟨rfl, _, _, _, _, _, rfl⟩
    · rintro j ρ h' lj ⟨rfl, w4, w7, w8, w9, w10, rfl⟩
      have lj : j < 2 := lj
      have hj : j = 0 ∨ j = 1 := by omega
      rcases hj with rfl | rfl
      · refine ⟨.loc sa, _, by simp [Items.get, seqL, oL], su ga, ?_⟩
        exact count_ok (k := k + 5) (v0 := some sc) (v1 := some (.loc 0)) (v2 := some (.loc L)) (v3 := v3) (v5 := some (.loc s1)) (v6 := some (.bl true)) (v9 := some (.loc aa.rl)) (v10 := w10) (v11 := v11) Aa (fun v => ⟨rfl, _, _, _, _, _, rfl⟩)
      · refine ⟨.loc sb, _, by simp [Items.get, seqL, oL], su gb, ?_⟩
        exact count_ok (k := k + 5) (v0 := some sc) (v1 := some (.loc 0)) (v2 := some (.loc L)) (v3 := v3) (v5 := some (.loc s1)) (v6 := some (.bl true)) (v9 := some (.loc ab.rl)) (v10 := w10) (v11 := v11) Ab (fun v => ⟨rfl, _, _, _, _, _, rfl⟩)
    · rintro ρ h' ⟨rfl, w4, w7, w8, w9, w10, rfl⟩
      exact ⟨by simp [Items.fin, Items.len, seqL, oL], look w4 w7 w8 w9 w10⟩
  rcases oL with o | o
  · exact main o T2.A1 T2.A2 T2.s1_ T2.s2_
  · exact main o T2.A2 T2.A1 T2.s2_ T2.s1_
theorem turn_ok {sc : Val} {i : Nat} {ρ : Rho} {P : Val → MH → Prop} {B : Rho → MH → Prop} (hi : i ≤ 63) (V : LI sc L i ρ h) : OkS (evS (callK ft (k + 6)) w_law_7 (ρ.set 3 (some (.int ((0 : Int) + i)))) h) (LI sc L (i + 1)) P B (LI sc L (i + 1)) := by
  obtain ⟨T, o, c⟩ := V
  rename_i s1 s2 r1 r2 a1 a2 d1 d2 v3 v4 v5 v6 v7 v8 v9 v10 v11
  unfold w_law_7
  rw [e_seq, OkS_then, e_asg, OkS_toS]
  have hc : Ok ((ev (callK ft (k + 6)) (.idx (.var 2) (.blt .int (.cons (.cmp .Eq (.call i__law_take (.cons (.var 1) (.cons (.cst (.int 5)) .nil))) (.cst (.int 0))) .nil)))).v ((lenv sc L v3 v4 v5 v6 v7 v8 v9 v10 v11).set 3 (some (.int ((0 : Int) + i)))) h) fun v h' => (v = .loc s1 ∨ v = .loc s2) ∧ TW h' L s1 s2 r1 r2 a1 a2 d1 d2 ∧ h'[L]? = some (.lst [.loc s1, .loc s2]) := by
    simp
    apply take_ok T.D (by decide) (by decide)
    intro n h1 _ D1 f1
    have o1 := f1.get o (by simpa using T.sz.1)
    simp
    by_cases z : n = 0
    · subst z
      simp [idx_loc o1]
      exact ⟨T.dr D1 f1, o1⟩
    · simp [z, idx_loc o1]
      exact ⟨T.dr D1 f1, o1⟩
  refine hc.mono ?_
  rintro v h' ⟨hv, T', o'⟩
  rw [asgR_nm, OkS_nx]
  rcases hv with rfl | rfl
  · exact turn1 (k := k) (v3 := some (.int ((0 : Int) + i))) (v4 := v4) (v6 := v6) (v7 := v7) (v8 := v8) (v9 := v9) (v10 := v10) (v11 := v11) T' (.inl o') c hi
  · exact turn1 (k := k) (v3 := some (.int ((0 : Int) + i))) (v4 := v4) (v6 := v6) (v7 := v7) (v8 := v8) (v9 := v9) (v10 := v10) (v11 := v11) T'.symm (.inr o') (by omega) hi
end
end Gu
end

section
set_option linter.all false
set_option Elab.async false
set_option maxHeartbeats 1000000
namespace Gu
open PySem L2
/-! k56: the sides are made; the law -/
abbrev dz : Da := ⟨[], [], [], []⟩
theorem vi0 : VI [] [] [] := ⟨by simp, by simp, by simp, by simp, by simp⟩
def sdE : E := (.lst (.cons (.new i_Heap___init__ "Heap" (.cons (.var 4) .nil)) (.cons (.lst (.cons (.lst .nil) (.cons (.lst .nil) (.cons (.lst .nil) .nil)))) (.cons (.lst .nil) (.cons (.var 4) .nil)))))
theorem side_ok {h : MH} {r : Int} {k : Nat} {v0 v1 v2 v3 v5 v6 v7 v8 v9 v10 v11 : Option Val} {P : Val → MH → Prop} (D : Dv h 0) (hr : 1 ≤ r)
    (H : ∀ h' a s, SS h' a r dz → h'[s]? = some (.lst [.loc a.n, .loc a.m, .loc a.rl, .int r]) → Dv h' 0 → FrS [] h h' → (∀ x ∈ a.l, h.length ≤ x ∧ x ≠ s) → h.length ≤ s → P (.loc s) h') :
    Ok ((ev (callK ft (k + 1)) sdE).v [v0, v1, v2, v3, some (.int r), v5, v6, v7, v8, v9, v10, v11] h) P := by
  have l0 := dv_lt D
  simp [sdE]
  refine init_ok (n := h.length) (by simp) ?_
  intro h1 y o rr S f1 ly lo lr
  simp at ly lo lr
  have l1 := f1.1
  simp at l1
  have f01 : FrS [] h h1 := ⟨by omega, fun i li _ => by
    rw [f1.2 i (by simp; omega) (by simp; omega)]
    exact List.getElem?_append_left li⟩
  simp [Val.isNon, lt0]
  have q1 := get_lt S.y_
  have q2 := get_lt S.o_
  have q3 := get_lt S.r_
  have q4 := get_lt S.ob
  rw [lstR_ok (xs := [_, _, _]) (by simp [sizeLine])]
  simp [lt0]
  rw [lstR_ok (xs := [_, _, _, _]) (by simp [sizeLine])]
  simp only [Ok_ok]
  generalize hg : (h1 ++ [MO.lst [], MO.lst [], MO.lst [], MO.lst [Val.loc h1.length, .loc (h1.length + 1), .loc (h1.length + 2)], MO.lst []]) = g
  have fg : FrS [] h1 g := by rw [← hg]; exact FrS.app _ _ _
  have lg : g.length = h1.length + 5 := by rw [← hg]; simp
  have g0 : g[h1.length]? = some (.lst []) := by rw [← hg]; simp
  have g1 : g[h1.length + 1]? = some (.lst []) := by rw [← hg]; simp
  have g2 : g[h1.length + 2]? = some (.lst []) := by rw [← hg]; simp
  have g3 : g[h1.length + 3]? = some (.lst [Val.loc h1.length, .loc (h1.length + 1), .loc (h1.length + 2)]) := by rw [← hg]; simp
  have g4 : g[h1.length + 4]? = some (.lst []) := by rw [← hg]; simp
  have fe : FrS [] g (g ++ [MO.lst [Val.loc h.length, .loc (h1.length + 3), .loc (h1.length + 4), .int r]]) := FrS.app _ _ _
  have ge : (g ++ [MO.lst [Val.loc h.length, .loc (h1.length + 3), .loc (h1.length + 4), .int r]])[h1.length + 5]? = some (.lst [Val.loc h.length, .loc (h1.length + 3), .loc (h1.length + 4), .int r]) := by rw [← lg]; simp
  have fa : FrS [] h (g ++ [MO.lst [Val.loc h.length, .loc (h1.length + 3), .loc (h1.length + 4), .int r]]) := (f01.trans fg (by simp)).trans fe (by simp)
  have S3 := (S.frl fg (by simp)).frl fe (by simp)
  have key := H _ ⟨h.length, y, o, rr, h1.length + 3, h1.length, h1.length + 1, h1.length + 2, h1.length + 4⟩ (h1.length + 5)
    ⟨S3, ⟨fe.get g3 (by simp), fe.get g0 (by simp), fe.get g1 (by simp), fe.get g2 (by simp), by simp⟩, fe.get g4 (by simp), vi0, by simp, by simp, by simp; omega, fun p hp q hq => by
      have hp : p ∈ [h.length, y, o, rr] := hp
      have hq : q ∈ [h1.length + 3, h1.length, h1.length + 1, h1.length + 2] := hq
      simp at hp hq
      omega, fun p hp => by
      have hp : p ∈ [h.length, y, o, rr] ++ [h1.length + 3, h1.length, h1.length + 1, h1.length + 2] := hp
      simp at hp
      show p ≠ h1.length + 4
      omega, fun p hp => by
      have hp : p ∈ [h.length, y, o, rr] ++ [h1.length + 3, h1.length, h1.length + 1, h1.length + 2] ++ [h1.length + 4] := hp
      simp at hp
      omega⟩ ge (D.fr fa (by simp)) fa (fun x hx => by
      have hp : x ∈ [h.length, y, o, rr] ++ [h1.length + 3, h1.length, h1.length + 1, h1.length + 2] ++ [h1.length + 4] := hx
      simp at hp
      omega) (by omega)
  rw [lg]
  exact key
inductive BldI (sc : Val) (L : Nat) : Nat → Rho → MH → Prop
  | zero {h : MH} {v3 v4 v5 v6 v7 v8 v9 v10 v11 : Option Val} : Dv h 0 → h[L]? = some (.lst []) → L ≠ 0 → BldI sc L 0 (lenv sc L v3 v4 v5 v6 v7 v8 v9 v10 v11) h
  | one {h : MH} {s : Nat} {r : Int} {a : Ad} {v3 v4 v5 v6 v7 v8 v9 v10 v11 : Option Val} : Dv h 0 → h[L]? = some (.lst [.loc s]) → L ≠ 0 → SS h a r dz → h[s]? = some (.lst [.loc a.n, .loc a.m, .loc a.rl, .int r]) → (∀ x ∈ a.l, x ≠ L ∧ x ≠ s) → s ≠ 0 → L ≠ s → BldI sc L 1 (lenv sc L v3 v4 v5 v6 v7 v8 v9 v10 v11) h
  | two {h : MH} {s1 s2 : Nat} {r1 r2 : Int} {a1 a2 : Ad} {v3 v4 v5 v6 v7 v8 v9 v10 v11 : Option Val} : TW h L s1 s2 r1 r2 a1 a2 dz dz → h[L]? = some (.lst [.loc s1, .loc s2]) → BldI sc L 2 (lenv sc L v3 v4 v5 v6 v7 v8 v9 v10 v11) h
theorem build_ok {sc : Val} {L k i : Nat} {ρ : Rho} {h : MH} {P : Val → MH → Prop} {B C : Rho → MH → Prop} (hi : i < 2) (V : BldI sc L i ρ h) : OkS (evS (callK ft (k + 1)) w_law_1 (ρ.set 3 (some (.int ((0 : Int) + i)))) h) (BldI sc L (i + 1)) P B C := by
  have ew : w_law_1 = (.seq (.asg (.nt (.nm 4)) (.bin .Add (.cst (.int 1)) (.call i__law_take (.cons (.var 1) (.cons (.cst (.int 9)) .nil))))) (.seq (.expr (.mth .append (.var 2) (.cons sdE .nil))) .skip)) := rfl
  rw [ew]
  cases V with
  | zero D g z =>
    simp
    apply take_ok D (by decide) (by decide)
    intro c h1 _ D1 f1
    have g1 := f1.get g (by simpa using z)
    have lL := get_lt g1
    simp [(mtT_loc g1).1]
    refine side_ok (k := k) D1 (by omega) ?_
    intro h2 a s A gs D2 f2 hx ls
    have g2 := f2.get g1 (by simp)
    rw [mt_append g2 (by simp [sizeLine])]
    simp only [Ok_ok, List.nil_append]
    have f3 : FrS [L] h2 (h2.set L (.lst [.loc s])) := FrS.set _ _ (by simp)
    have sl : s ≠ L := by omega
    have l0 := dv_lt D1
    exact .one (D2.fr f3 (by simpa using z.symm)) (List.getElem?_set_self (get_lt g2)) z (A.fr f3 fun x h => by have := (hx x h).1; simp; omega) (f3.get gs (by simpa using sl)) (fun x h => by have := hx x h; omega) (by omega) sl.symm
  | @one _ s1 r1 a1 _ _ _ _ _ _ _ _ _ D g z A1 gs1 sa1 z1 ne1 =>
    simp
    apply take_ok D (by decide) (by decide)
    intro c h1 _ D1 f1
    have g1 := f1.get g (by simpa using z)
    have lL := get_lt g1
    have gs1' := f1.get gs1 (by simpa using z1)
    have ls1 := get_lt gs1'
    have A1' := A1.dr f1
    simp [(mtT_loc g1).1]
    refine side_ok (k := k) D1 (by omega) ?_
    intro h2 a s A gs D2 f2 hx ls
    have g2 := f2.get g1 (by simp)
    rw [mt_append g2 (by simp [sizeLine])]
    simp only [Ok_ok, List.cons_append, List.nil_append]
    have f3 : FrS [L] h2 (h2.set L (.lst [.loc s1, .loc s])) := FrS.set _ _ (by simp)
    have sl : s ≠ L := by omega
    have l0 := dv_lt D1
    have lt1 := A1'.lt
    have L2 : (h2.set L (.lst [.loc s1, .loc s]))[L]? = some (.lst [.loc s1, .loc s]) := List.getElem?_set_self (get_lt g2)
    exact .two ⟨D2.fr f3 (by simpa using z.symm), f3.get (f2.get gs1' (by simp)) (by simpa using ne1.symm), f3.get gs (by simpa using sl), (A1'.ap f2).fr f3 fun x h => by simpa using (sa1 x h).1, A.fr f3 fun x h => by have := (hx x h).1; simp; omega,
      fun x h => by
        rcases List.mem_append.mp h with e | e
        · have := sa1 x e; have := lt1 x e; omega
        · have := hx x e; omega, ⟨z, z1, by omega⟩, ⟨by omega, ne1, by omega⟩, fun x h y hy => by have := lt1 x h; have := hx y hy; omega, get_lt L2⟩ L2
  | two T g => omega
/-- at the end all is looked at once more -/
theorem last_ok {sc : Val} {L k s1 s2 : Nat} {h : MH} {r1 r2 : Int} {a1 a2 : Ad} {d1 d2 : Da} {v3 v4 v5 v6 v7 v8 v9 v10 v11 : Option Val} {N B C : Rho → MH → Prop} (T : TW h L s1 s2 r1 r2 a1 a2 d1 d2) (oL : h[L]? = some (.lst [.loc s1, .loc s2])) :
    OkS (evS (callK ft (k + 3)) r_law_11 (lenv sc L v3 v4 v5 v6 v7 v8 v9 v10 v11) h) N (fun v _ => v = .bl true) B C := by
  have su : ∀ {h2 : MH} {s : Nat} {a : Ad} {r : Int} {ρ : Rho}, h2[s]? = some (.lst [.loc a.n, .loc a.m, .loc a.rl, .int r]) → setU [7, 8, 9, 4] (.loc s) h2 ρ = some ((((ρ.set 7 (some (.loc a.n))).set 8 (some (.loc a.m))).set 9 (some (.loc a.rl))).set 4 (some (.int r))) := by
    intro h2 s a r ρ g
    simp [setU, seqL, g, setNs]
  have one : ∀ {h1 : MH} {a : Ad} {r : Int} {d : Da} {w3 w4 w5 w6 w10 w11 : Option Val} {M B' C' : Rho → MH → Prop} {P : Val → MH → Prop}, SS h1 a r d → (∀ h' v, FrS [] h1 h' → M (lenv sc L w3 w4 w5 w6 (some (.loc a.n)) (some (.loc a.m)) (some (.loc a.rl)) w10 v) h') →
      OkS (evS (callK ft (k + 3)) w_law_9 (lenv sc L w3 w4 w5 w6 (some (.loc a.n)) (some (.loc a.m)) (some (.loc a.rl)) w10 w11) h1) M P B' C' := by
    intro h1 a r d w3 w4 w5 w6 w10 w11 M B' C' P A HM
    obtain ⟨n, rr, dd, ln, lr, hr⟩ := reach_ex A
    have l8 := A.l8
    simp [w_law_9]
    refine lreached_ok (k := k + 1) dd ln A.M (fun o ho => by rcases ho with ho | ho; exact (A.I.y o ho).2; exact (A.I.o o ho).2) A.g (by omega) ?_
    intro h2 D f2 lD g2
    rw [itR_loc g2]
    simp only [Ok_ok]
    have A2 := A.ap f2
    refine forLv_ok (fun _ ρ h' => h' = h2 ∧ ∃ v, ρ = lenv sc L w3 w4 w5 w6 (some (.loc a.n)) (some (.loc a.m)) (some (.loc a.rl)) w10 v) ?_ ?_ ?_ ⟨rfl, _, rfl⟩
    · rintro j ρ h' ⟨rfl, _, rfl⟩
      exact g2
    · rintro j ρ h' x ex ⟨rfl, v, rfl⟩
      rw [List.getElem?_map, Option.map_eq_some_iff] at ex
      obtain ⟨b, eb, rfl⟩ := ex
      obtain ⟨x, eo⟩ := hr b (List.mem_of_getElem? eb)
      simp [w_law_8, isObj_ap A2.S (m := "look") (by rfl)]
      refine look_ok (k := k + 2) A2.S (obAt_if eo) ?_
      refine object_ok (k := k + 2) A2.M eo ?_
      simp [ne_Ob]
    · rintro ρ h' ⟨rfl, v, rfl⟩
      exact HM _ _ f2
  simp [r_law_11]
  rw [itR_loc oL]
  simp only [Ok_ok]
  refine forU_ok (it := .live L 2) (fun _ ρ h' => FrS [] h h' ∧ ∃ w4 w7 w8 w9 w10 w11, ρ = lenv sc L v3 w4 v5 v6 w7 w8 w9 w10 w11) ?_ ?_ 2 0 _ _ rfl ⟨FrS.refl _ _, _, _, _, _, _, _, rfl⟩
  · rintro j ρ h' lj ⟨f, w4, w7, w8, w9, w10, w11, rfl⟩
    have lj : j < 2 := lj
    have oL' := f.get oL (by simp)
    have T' := T.ap f
    have hj : j = 0 ∨ j = 1 := by omega
    rcases hj with rfl | rfl
    · exact ⟨.loc s1, _, by simp [Items.get, seqL, oL'], su T'.s1_, one (w3 := v3) (w4 := some (.int r1)) (w5 := v5) (w6 := v6) (w10 := w10) (w11 := w11) T'.A1 fun h2 v f2 => ⟨f.trans f2 (by simp), _, _, _, _, _, _, rfl⟩⟩
    · exact ⟨.loc s2, _, by simp [Items.get, seqL, oL'], su T'.s2_, one (w3 := v3) (w4 := some (.int r2)) (w5 := v5) (w6 := v6) (w10 := w10) (w11 := w11) T'.A2 fun h2 v f2 => ⟨f.trans f2 (by simp), _, _, _, _, _, _, rfl⟩⟩
  · rintro ρ h' ⟨f, w4, w7, w8, w9, w10, w11, rfl⟩
    have oL' := f.get oL (by simp)
    refine ⟨by simp [Items.fin, Items.len, seqL, oL'], ?_⟩
    simp [r_law_10]
theorem law_body {ns : List Int} (k : Nat) : Ok (callK ft (k + 7) i_law [.fro (ns.map Val.int)] []) (fun v _ => v = .bl true) := by
  apply Ok_call (F := ⟨1, 12, b_law⟩) rfl rfl (by decide)
  simp [b_law]
  apply draw_ok
  intro a b b0 b1
  simp [lt0]
  have er : rng1R (.int 2) [MO.lst [.int a, .int b], MO.lst []] = .ok (.rng 0 2) [MO.lst [.int a, .int b], MO.lst []] := by rw [rng1R_ok (by omega)]; rfl
  rw [er]
  simp only [Ok_ok]
  have D0 : Dv [MO.lst [.int a, .int b], MO.lst []] 0 := ⟨a, b, rfl, b0, b1⟩
  refine forR_ok (BldI (.fro (ns.map Val.int)) 1) (fun i ρ h hi V => build_ok (k := k + 5) hi V) ?_ (.zero D0 rfl (by decide))
  rintro ρ h V
  cases V with
  | @two _ s1 s2 r1 r2 a1 a2 v3 v4 v5 v6 v7 v8 v9 v10 v11 T g =>
  simp [r_law_12]
  apply take_ok T.D (by decide) (by decide)
  intro c h1 hc D1 f1
  have eI : (5 : Int) + (c : Int) = ((5 + c : Nat) : Int) := by omega
  have er2 : rng1R (.int ((5 + c : Nat) : Int)) h1 = .ok (.rng 0 (5 + c)) h1 := by rw [rng1R_ok (by omega), Int.toNat_natCast]
  simp only [bin_add, Ok_ok, eI, er2]
  refine forR_ok (LI (.fro (ns.map Val.int)) 1) (fun i ρ h hi V => turn_ok (k := k) (by omega) V) ?_ (.mk (T.dr D1 f1) (f1.get g (by simpa using T.sz.1)) (by simp [Da.c]))
  rintro ρ h2 ⟨T2, g2, _⟩
  exact last_ok (k := k + 3) T2 g2
theorem the_law (ns : List Int) (_hl : ns.length ≤ 63) : ∃ h', callK ft 115 i_law [.fro (ns.map Val.int)] [] = .ok (.bl true) h' := by
  obtain ⟨a, h, e, rfl⟩ := law_body (ns := ns) 108
  exact ⟨h, e⟩
end Gu
end

section
set_option Elab.async false
set_option linter.all false
set_option maxRecDepth 100000
set_option maxHeartbeats 4000000
namespace Gu
open PySem PySem.Spec PyProof.Rows L2
def loose : List PySem.Str := (["Heap", "Moving", "is_young", "placed", "_law_draw", "_law_take", "_law_object", "_law_reached", "_law_move", "_law_adjust", "_law_minor", "_law_placed", "_law_major", "_law_store", "_law_some", "_law_made", "_law_deed"] : List PySem.Str)
abbrev Rw : PySem.W.OpenRow := PySem.W.OpenLaw.row PySem.Challenge.rw_guanaco_k56_heap_by_a_model
abbrev hkk : PySem.W.Hook := hookY 5 (faOf G ents) (ents.map Ent.d) (exOf G)
def obb (s : PySem.W.SharedT) : He.AlX := obsY 5 (faOf G ents) (ents.map Ent.d) (exOf G) (HandSHeadRun.getT s)
theorem obb_eq (s : PySem.W.SharedT) : obb s = hkk.obs s.abs := obsY_eq (HandSHeadRun.getT_eq s)
theorem runn (w : World) : HandSHeadRun.RunEq Rw (PySem.W.view Rw.prog [19]) hkk obb 4000 loose w := by
  intro os
  kernel_rfl
theorem law_true (ns : List Int) (hl : ns.length ≤ 63) : ∃ h', callK (ents.map (·.F)) 115 27 [.fro (ns.map Val.int)] [] = .ok (.bl true) h' := the_law ns hl
end Gu
open PySem PySem.W PySem.Calls PyProof.Rows
theorem PySem.Challenge.cw_guanaco_k56_heap_by_a_model_holds : PySem.Challenge.rw_guanaco_k56_heap_by_a_model.Holds := by
  w_on; o_law
  refine HandSHeadRun.head_any (r := OpenLaw.row PySem.Challenge.rw_guanaco_k56_heap_by_a_model) (q := view (OpenLaw.row PySem.Challenge.rw_guanaco_k56_heap_by_a_model).prog [19]) (H := Gu.hkk) (ob := Gu.obb) (M := 4000) (loose := Gu.loose) (d := HandSHeadRun.topDef (OpenLaw.row PySem.Challenge.rw_guanaco_k56_heap_by_a_model).prog 19) (kwd := []) Gu.obb_eq
    (by kernel_rfl) (fun s => by kernel_rfl) Gu.runn (by kernel_rfl) (by kernel_rfl) (by kernel_rfl) (by rfl) (by first | assumption | decide +kernel) (by decide +kernel) ⟨rfl, rfl, rfl, rfl, rfl, by decide +kernel⟩ ?hw ?hc
  case hw => w_witness2
  case hc =>
    refine L2.walk_ofE (l := PySem.Challenge.rw_guanaco_k56_heap_by_a_model) (n := 63) (k := 230) (x := "script") (CX := Gu.CXX (OpenLaw.row PySem.Challenge.rw_guanaco_k56_heap_by_a_model).prog) rfl (by decide) (by kernel_rfl) ⟨rfl, by decide, by decide⟩ ?F Gu.cxx_no
    intro w mg fa h Y N hmg0
    obtain ⟨K, KX, c⟩ := Y
    have hmg : mg ("law" : PySem.Str) = some (.ref fa) := by
      have e : (HandSHeadRun.topDef (OpenLaw.row PySem.Challenge.rw_guanaco_k56_heap_by_a_model).prog 19).name = ("law" : PySem.Str) := by kernel_rfl
      rw [← e]
      exact hmg0
    have T := Gu.told_of (P := (OpenLaw.row PySem.Challenge.rw_guanaco_k56_heap_by_a_model).prog) (mg := mg) (G := Gu.G) (ents := Gu.ents) (by decide +kernel) c KX N (by decide +kernel) (by decide +kernel)
    have hlen : (27 : Nat) < Gu.ents.length := by decide
    obtain ⟨fa0, fd, F0, hm0⟩ := T.fn 27 Gu.e_law rfl
    have e0 : fa0 = fa := by
      have := (Gu.role_glob hm0 (by decide)).symm.trans hmg
      cases this
      rfl
    subst e0
    refine ⟨K, fd, Gu.spG K Gu.G (Gu.callK (Gu.ents.map (·.F)) 115) 27 1, KX, fun s v => L2.FunD.bindsA F0 Gu.e_law.bind s [v] rfl, fun H a ns hl ho hS => Gu.law_sp (k := 0) Gu.law_true H a ns hl ho hS, fun base _ _ => ?_⟩
    exact Gu.fnok_cx (Gu.ent_ok T 115 27 Gu.e_law fa0 fd rfl F0)
end
