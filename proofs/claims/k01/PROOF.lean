import PyProof.Rows.All
import PySem.Challenge.RW_guanaco_k01_tokens_of_a_text
import HandS.ForMost
import HandS.Wide
import HandS.IsInst
import HandS.TupAny
import HandS.Flow
import HandS.Comp
import HandS.HeadHook4
import HandS.HeadEnd
import HandS.Head2
import HandS.Defaults
section
set_option Elab.async false
set_option linter.all false
/-! Gu1: values as trees, a heap of numbered lists, a small language, what it computes. -/
namespace Gu
open PySem L2

inductive Val where
  | non | bl (b : Bool) | int (i : Int) | str (s : List Nat) | tup (xs : List Val) | fro (xs : List Val) | loc (n : Nat)
  deriving Inhabited

inductive MO where
  | lst (xs : List Val)
  deriving Inhabited

abbrev MH := List MO
abbrev Rho := List (Option Val)

inductive R (α : Type) where
  | no | ok (a : α) (h : MH) | ex (c : Nat) (as : List Val) (h : MH)

@[inline] def R.bind {α β : Type} (r : R α) (f : α → MH → R β) : R β :=
  match r with
  | .no => .no
  | .ok a h => f a h
  | .ex c as h => .ex c as h
@[simp] theorem R.bind_no {α β : Type} (f : α → MH → R β) : (R.no : R α).bind f = .no := rfl
@[simp] theorem R.bind_ok {α β : Type} (a : α) (h : MH) (f : α → MH → R β) : (R.ok a h).bind f = f a h := rfl
@[simp] theorem R.bind_ex {α β : Type} (c : Nat) (as : List Val) (h : MH) (f : α → MH → R β) : (R.ex c as h : R α).bind f = .ex c as h := rfl
def R.ofO {α : Type} (o : Option α) (h : MH) : R α := match o with | some a => .ok a h | none => .no
@[simp] theorem R.ofO_some {α : Type} (a : α) (h : MH) : R.ofO (some a) h = .ok a h := rfl
@[simp] theorem R.ofO_none {α : Type} (h : MH) : R.ofO (none : Option α) h = .no := rfl

/-- built-in functions -/
inductive BI where
  | len | int | str | list | tuple
  deriving DecidableEq
/-- classes to ask isinstance of -/
inductive TK where
  | int | bool | str | list | tuple
  deriving DecidableEq
/-- methods of built-in types -/
inductive MI where
  | append | pop | join | split | extend
  deriving DecidableEq

/-- a target that binds names -/
inductive NT where
  | nm (i : Nat) | tp (is : List Nat)

inductive E where
  | nil | cons (e es : E)
  | var (i : Nat) | cst (v : Val) | glb (x : Str) (v : Val)
  | bin (o : Operator) (a b : E) | neg (a : E) | cmp (o : CmpOp) (a b : E)
  | and_ (a b : E) | or_ (a b : E) | not_ (a : E) | ite (c a b : E)
  | tup (es : E) | lst (es : E)
  | idx (a b : E) | slc (a lo hi : E)
  | call (f : Nat) (es : E) | blt (b : BI) (es : E) | isi (t : TK) (a : E) | mth (m : MI) (o es : E)
  | rng1 (a : E) | rng2 (a b : E)
  | lc (own : List Nat) (t : NT) (it cond elt : E)

inductive T where
  | nt (t : NT) | sub (o i : E)

inductive S where
  | skip | seq (a b : S) | asg (t : T) (e : E) | aug (i : Nat) (o : Operator) (e : E) | expr (e : E)
  | ret (e : E) | retn | ite (c : E) (a b : S) | whl (c : E) (b : S) | for_ (t : NT) (it : E) (b : S)
  | brk | cnt | never

/-! ### by values -/
mutual
def Val.eqb : Val → Val → Bool
  | .non, .non => true
  | .bl a, .bl b => a == b
  | .int a, .int b => a == b
  | .bl a, .int b => (if a then 1 else 0) == b
  | .int a, .bl b => a == (if b then 1 else 0)
  | .str a, .str b => a == b
  | .tup a, .tup b => Val.eqbs a b
  | _, _ => false
def Val.eqbs : List Val → List Val → Bool
  | [], [] => true
  | a :: r, b :: s => Val.eqb a b && Val.eqbs r s
  | _, _ => false
end
mutual
def Val.depth : Val → Nat
  | .tup xs => Val.depths xs + 1
  | _ => 0
def Val.depths : List Val → Nat
  | [] => 0
  | x :: r => max (Val.depth x) (Val.depths r)
end
mutual
/-- no place in it -/
def Val.flat : Val → Bool
  | .loc _ => false
  | .fro _ => false
  | .tup xs => Val.flats xs
  | _ => true
def Val.flats : List Val → Bool
  | [] => true
  | x :: r => Val.flat x && Val.flats r
end
/-- None, a bool, an int, a text -/
def Val.atom : Val → Bool
  | .loc _ => false
  | .fro _ => false
  | .tup _ => false
  | _ => true
def seqL (h : MH) (n : Nat) : Option (List Val) :=
  match h[n]? with
  | some (.lst xs) => some xs
  | none => none
def cutL {α : Type} (xs : List α) (lo hi : Option Int) : List α := (xs.drop (HT.sIx xs.length 0 lo)).take (HT.sIx xs.length xs.length hi - HT.sIx xs.length 0 lo)
def truV (h : MH) : Val → Option Bool
  | .non => some false
  | .bl b => some b
  | .int i => some (i != 0)
  | .str s => some (!s.isEmpty)
  | .tup xs => some (!xs.isEmpty)
  | .fro xs => some (!xs.isEmpty)
  | .loc n => (seqL h n).map fun xs => !xs.isEmpty
/-- an equality that is served: data without places, or two lists of such -/
def eqV? (h : MH) (x y : Val) : Option Bool :=
  match x, y with
  | .loc n, .loc m => match seqL h n, seqL h m with
    | some xs, some ys => if Val.flats xs && Val.flats ys && decide (Val.depths xs ≤ 150) && decide (Val.depths ys ≤ 150) then some (Val.eqbs xs ys) else none
    | _, _ => none
  | .loc n, y => match seqL h n with
    | some xs => if Val.flats xs && Val.flat y && decide (Val.depths xs ≤ 150) && decide (Val.depth y ≤ 150) then some false else none
    | none => none
  | x, .loc m => match seqL h m with
    | some ys => if Val.flat x && Val.flats ys && decide (Val.depth x ≤ 150) && decide (Val.depths ys ≤ 150) then some false else none
    | none => none
  | x, y => if Val.flat x && Val.flat y && decide (Val.depth x ≤ 150) && decide (Val.depth y ≤ 150) then some (Val.eqb x y) else none
def inV? (h : MH) (x y : Val) : Option Bool :=
  match y with
  | .tup ys => if x.atom && ys.all Val.atom then some (ys.any fun z => Val.eqb z x) else none
  | .loc n => match seqL h n with
    | some ys => if x.atom && ys.all Val.atom then some (ys.any fun z => Val.eqb z x) else none
    | none => none
  | .str s => match x with
    | .str [c] => some (s.contains c)
    | _ => none
  | _ => none
def Val.isNon : Val → Bool | .non => true | _ => false
def cmpV (o : CmpOp) (h : MH) (x y : Val) : Option Val :=
  match o with
  | .Eq => (eqV? h x y).map .bl
  | .NotEq => (eqV? h x y).map fun b => .bl (!b)
  | .Lt => match x, y with | .int i, .int j => some (.bl (decide (i < j))) | _, _ => none
  | .LtE => match x, y with | .int i, .int j => some (.bl (decide (i ≤ j))) | _, _ => none
  | .Gt => match x, y with | .int i, .int j => some (.bl (decide (j < i))) | _, _ => none
  | .GtE => match x, y with | .int i, .int j => some (.bl (decide (j ≤ i))) | _, _ => none
  | .Is => match y with | .non => some (.bl x.isNon) | _ => none
  | .IsNot => match y with | .non => some (.bl (!x.isNon)) | _ => none
  | .In => (inV? h x y).map .bl
  | .NotIn => (inV? h x y).map fun b => .bl (!b)
def binV (o : Operator) (x y : Val) (h : MH) : R Val :=
  match o, x, y with
  | .Add, .int i, .int j => .ok (.int (i + j)) h
  | .Sub, .int i, .int j => .ok (.int (i - j)) h
  | .Mult, .int i, .int j => if i.natAbs.log2 + j.natAbs.log2 < 1000000 then .ok (.int (i * j)) h else .no
  | .FloorDiv, .int i, .int j => if 0 < j ∧ j.natAbs.log2 < 9000 then .ok (.int (i / j)) h else .no
  | .Mod, .int i, .int j => if 0 < j then .ok (.int (i % j)) h else .no
  | .Pow, .int i, .int j => if 0 ≤ j ∧ j ≤ 1000 ∧ i.natAbs < 2 ^ 64 then .ok (.int (i ^ j.toNat)) h else .no
  | .Add, .str a, .str b => if a.length + b.length ≤ sizeLine then .ok (.str (a ++ b)) h else .no
  | .Add, .tup a, .tup b => if a.length + b.length ≤ sizeLine then .ok (.tup (a ++ b)) h else .no
  | .Add, .loc n, .loc m => match h[n]?, h[m]? with
    | some (.lst a), some (.lst b) => if a.length + b.length ≤ sizeLine then .ok (.loc h.length) (h ++ [.lst (a ++ b)]) else .no
    | _, _ => .no
  | _, _, _ => .no
def idxV (h : MH) (x y : Val) : Option Val :=
  match x, y with
  | .tup xs, .int i => atI xs i
  | .fro xs, .int i => atI xs i
  | .loc n, .int i => (seqL h n).bind fun xs => atI xs i
  | .str s, .int i => (atI s i).map fun c => .str [c]
  | _, _ => none
def slcV (h : MH) (x : Val) (lo hi : Option Int) : R Val :=
  match x with
  | .tup xs => .ok (.tup (cutL xs lo hi)) h
  | .fro xs => .ok (.loc h.length) (h ++ [.lst (cutL xs lo hi)])
  | .loc n => match seqL h n with
    | some xs => .ok (.loc h.length) (h ++ [.lst (cutL xs lo hi)])
    | none => .no
  | .str s => .ok (.str (cutL s lo hi)) h
  | _ => .no
def strInt (i : Int) : List Nat := (toString i).toList.map Char.toNat
def biV (b : BI) (vs : List Val) (h : MH) : R Val :=
  match b, vs with
  | .len, [.str s] => .ok (.int s.length) h
  | .len, [.tup xs] => .ok (.int xs.length) h
  | .len, [.fro xs] => .ok (.int xs.length) h
  | .len, [.loc n] => match seqL h n with | some xs => .ok (.int xs.length) h | none => .no
  | .int, [.int i] => .ok (.int i) h
  | .str, [.int i] => if i.natAbs.log2 < 1920 ∧ (strInt i).length ≤ sizeLine then .ok (.str (strInt i)) h else .no
  | .int, [.bl b] => .ok (.int (if b then 1 else 0)) h
  | .list, [.loc n] => match seqL h n with | some xs => .ok (.loc h.length) (h ++ [.lst xs]) | none => .no
  | .list, [.tup xs] => .ok (.loc h.length) (h ++ [.lst xs])
  | .list, [.fro xs] => .ok (.loc h.length) (h ++ [.lst xs])
  | .tuple, [.loc n] => match seqL h n with | some xs => .ok (.tup xs) h | none => .no
  | .tuple, [.tup xs] => .ok (.tup xs) h
  | _, _ => .no
def isiV (t : TK) (h : MH) (x : Val) : Option Bool :=
  match x with
  | .int _ => some (decide (t = .int))
  | .bl _ => some (decide (t = .int) || decide (t = .bool))
  | .str _ => some (decide (t = .str))
  | .tup _ => some (decide (t = .tuple))
  | .fro _ => some (decide (t = .list))
  | .loc n => match h[n]? with | some (.lst _) => some (decide (t = .list)) | _ => none
  | .non => some false
def strs? : List Val → Option (List (List Nat))
  | [] => some []
  | .str s :: r => (strs? r).map (s :: ·)
  | _ :: _ => none
def joinS (sep : List Nat) : List (List Nat) → List Nat
  | [] => []
  | [x] => x
  | x :: y :: r => x ++ sep ++ joinS sep (y :: r)
/-- split by a text of one sign -/
def splitC (c : Nat) : List Nat → List Nat → List (List Nat)
  | acc, [] => [acc]
  | acc, d :: r => if d = c then acc :: splitC c [] r else splitC c (acc ++ [d]) r
def mtV (m : MI) (o : Val) (vs : List Val) (h : MH) : R Val :=
  match m, o, vs with
  | .append, .loc n, [v] => match h[n]? with
    | some (.lst xs) => if xs.length < sizeLine then .ok .non (h.set n (.lst (xs ++ [v]))) else .no
    | _ => .no
  | .pop, .loc n, [] => match h[n]? with
    | some (.lst xs) => match xs.getLast? with | some v => .ok v (h.set n (.lst xs.dropLast)) | none => .no
    | _ => .no
  | .extend, .loc n, [.loc m] => match h[n]?, h[m]? with
    | some (.lst xs), some (.lst ys) => if xs.length + ys.length ≤ sizeLine then .ok .non (h.set n (.lst (xs ++ ys))) else .no
    | _, _ => .no
  | .join, .str s, [.loc n] => match seqL h n with
    | some xs => match strs? xs with
      | some ys => if (ys.map (·.length)).sum + ys.length * s.length ≤ 16777216 then .ok (.str (joinS s ys)) h else .no
      | none => .no
    | none => .no
  | .split, .str s, [.str [c]] => if s.length + 2 ≤ sizeLine ∧ c < 256 then .ok (.loc h.length) (h ++ [.lst ((splitC c [] s).map .str)]) else .no
  | _, _, _ => .no
/-- the receiver is of the method's type -/
def mtT (m : MI) (h : MH) (o : Val) : Bool :=
  match m, o with
  | .append, .loc n => (seqL h n).isSome
  | .pop, .loc n => (seqL h n).isSome
  | .extend, .loc n => (seqL h n).isSome
  | .join, .str _ => true
  | .split, .str _ => true
  | _, _ => false
def setV (o i v : Val) (h : MH) : R Unit :=
  match o, i with
  | .loc n, .int k => match h[n]? with
    | some (.lst xs) => match ixN xs.length k with | some j => .ok () (h.set n (.lst (xs.set j v))) | none => .no
    | _ => .no
  | _, _ => .no

/-! ### expressions -/
abbrev CallT := Nat → List Val → MH → R Val
/-- what is walked: values; a list as it stands; a range; a list with its places -/
inductive Items where
  | vals (xs : List Val) | live (n len : Nat) | rng (lo : Int) (n : Nat) | enm (n len : Nat)
def Items.len : Items → Nat
  | .vals xs => xs.length
  | .live _ k => k
  | .rng _ k => k
  | .enm _ k => k
def Items.get (h : MH) (i : Nat) : Items → Option Val
  | .vals xs => xs[i]?
  | .live n k => match seqL h n with | some xs => if xs.length = k then xs[i]? else none | none => none
  | .rng lo _ => some (.int (lo + i))
  | .enm n k => match seqL h n with | some xs => if xs.length = k then (xs[i]?).map fun x => .tup [.int i, x] else none | none => none
def Items.fin (h : MH) : Items → Bool
  | .vals _ => true
  | .live n k => match seqL h n with | some xs => decide (xs.length = k) | none => false
  | .rng _ _ => true
  | .enm n k => match seqL h n with | some xs => decide (xs.length = k) | none => false
structure Den where
  v : Rho → MH → R Val
  a : Rho → MH → R (List Val)
  t : Rho → MH → R Bool
  i : Rho → MH → R Items
  o : Rho → MH → R (Option Int)
def itemsV (h : MH) (x : Val) : Option Items :=
  match x with
  | .tup xs => some (.vals xs)
  | .fro xs => some (.vals xs)
  | .loc n => (seqL h n).map fun xs => .live n xs.length
  | .str s => some (.vals (s.map fun c => .str [c]))
  | _ => none
@[inline] def Den.ofV (f : Rho → MH → R Val) : Den where
  v := f
  a := fun _ _ => .no
  t := fun ρ h => (f ρ h).bind fun x h1 => R.ofO (truV h1 x) h1
  i := fun ρ h => (f ρ h).bind fun x h1 => R.ofO (itemsV h1 x) h1
  o := fun ρ h => (f ρ h).bind fun x h1 => match x with | .int k => .ok (some k) h1 | _ => .no
def Den.none : Den := ⟨fun _ _ => .no, fun _ _ => .no, fun _ _ => .no, fun _ _ => .no, fun _ _ => .no⟩
def wipeR (ρ : Rho) : List Nat → Rho
  | [] => ρ
  | v :: vs => (wipeR ρ vs).set v Option.none
def setNs : List Nat → List Val → Rho → Option Rho
  | [], [], ρ => some ρ
  | i :: is, v :: vs, ρ => setNs is vs (ρ.set i (some v))
  | _, _, _ => Option.none
def setN (t : NT) (v : Val) (ρ : Rho) : Option Rho :=
  match t with
  | .nm i => some (ρ.set i (some v))
  | .tp is => match v with
    | .tup vs => setNs is vs ρ
    | _ => Option.none
/-- a comprehension's turns: m are left, the list that grows stands at D -/
def lcLoop (D : Nat) (t : NT) (ρ : Rho) (cnd : Rho → MH → R Bool) (elt : Rho → MH → R Val) (it : Items) : Nat → Nat → MH → R Val
  | 0, _, h => if it.fin h then .ok (.loc D) h else .no
  | m + 1, i, h =>
    match it.get h i with
    | some x => match setN t x ρ with
      | some ρ' => match cnd ρ' h with
        | .ok true h0 => match elt ρ' h0 with
          | .ok y h1 => match h1[D]? with
            | some (.lst acc) => if acc.length < sizeLine then lcLoop D t ρ cnd elt it m (i + 1) (h1.set D (.lst (acc ++ [y]))) else .no
            | _ => .no
          | _ => .no
        | .ok false h0 => lcLoop D t ρ cnd elt it m (i + 1) h0
        | _ => .no
      | Option.none => .no
    | Option.none => .no

def ev (call : CallT) : E → Den
  | .nil => { Den.none with a := fun _ h => .ok [] h, o := fun _ h => .ok Option.none h, t := fun _ h => .ok true h }
  | .cons e es => { Den.none with t := (ev call e).t, a := fun ρ h => ((ev call e).v ρ h).bind fun x h1 => ((ev call es).a ρ h1).bind fun xs h2 => .ok (x :: xs) h2 }
  | .var i => .ofV fun ρ h => R.ofO (ρ[i]?).join h
  | .cst v => .ofV fun _ h => .ok v h
  | .glb _ v => .ofV fun _ h => .ok v h
  | .bin o a b => .ofV fun ρ h => ((ev call a).v ρ h).bind fun x h1 => ((ev call b).v ρ h1).bind fun y h2 => binV o x y h2
  | .neg a => .ofV fun ρ h => ((ev call a).v ρ h).bind fun x h1 => match x with | .int i => .ok (.int (-i)) h1 | _ => .no
  | .cmp o a b => { (Den.ofV fun ρ h => ((ev call a).v ρ h).bind fun x h1 => ((ev call b).v ρ h1).bind fun y h2 => R.ofO (cmpV o h2 x y) h2) with
      t := fun ρ h => (((ev call a).v ρ h).bind fun x h1 => ((ev call b).v ρ h1).bind fun y h2 => R.ofO (cmpV o h2 x y) h2).bind fun x h1 => match x with | .bl k => .ok k h1 | _ => .no }
  | .and_ a b => { (Den.ofV fun ρ h => ((ev call a).v ρ h).bind fun x h1 => (R.ofO (truV h1 x) h1).bind fun k h2 => if k then (ev call b).v ρ h2 else .ok x h2) with
      t := fun ρ h => ((ev call a).t ρ h).bind fun x h1 => if x then (ev call b).t ρ h1 else .ok false h1 }
  | .or_ a b => { (Den.ofV fun ρ h => ((ev call a).v ρ h).bind fun x h1 => (R.ofO (truV h1 x) h1).bind fun k h2 => if k then .ok x h2 else (ev call b).v ρ h2) with
      t := fun ρ h => ((ev call a).t ρ h).bind fun x h1 => if x then .ok true h1 else (ev call b).t ρ h1 }
  | .not_ a => { (Den.ofV fun ρ h => ((ev call a).v ρ h).bind fun x h1 => (R.ofO (truV h1 x) h1).bind fun k h2 => .ok (.bl (!k)) h2) with
      t := fun ρ h => ((ev call a).t ρ h).bind fun x h1 => .ok (!x) h1 }
  | .ite c a b => { (Den.ofV fun ρ h => ((ev call c).t ρ h).bind fun x h1 => if x then (ev call a).v ρ h1 else (ev call b).v ρ h1) with
      t := fun ρ h => ((ev call c).t ρ h).bind fun x h1 => if x then (ev call a).t ρ h1 else (ev call b).t ρ h1 }
  | .tup es => .ofV fun ρ h => ((ev call es).a ρ h).bind fun xs h1 => if xs.length ≤ sizeLine then .ok (.tup xs) h1 else .no
  | .lst es => .ofV fun ρ h => ((ev call es).a ρ h).bind fun xs h1 => if xs.length ≤ sizeLine then .ok (.loc h1.length) (h1 ++ [.lst xs]) else .no
  | .idx a b => .ofV fun ρ h => ((ev call a).v ρ h).bind fun x h1 => ((ev call b).v ρ h1).bind fun y h2 => R.ofO (idxV h2 x y) h2
  | .slc a lo hi => .ofV fun ρ h => ((ev call a).v ρ h).bind fun x h1 => ((ev call lo).o ρ h1).bind fun l h2 => ((ev call hi).o ρ h2).bind fun u h3 => slcV h3 x l u
  | .call f es => .ofV fun ρ h => ((ev call es).a ρ h).bind fun xs h1 => call f xs h1
  | .blt b es => .ofV fun ρ h => ((ev call es).a ρ h).bind fun xs h1 => biV b xs h1
  | .isi t a => .ofV fun ρ h => ((ev call a).v ρ h).bind fun x h1 => R.ofO ((isiV t h1 x).map .bl) h1
  | .mth m o es => .ofV fun ρ h => ((ev call o).v ρ h).bind fun x h1 => if mtT m h1 x then ((ev call es).a ρ h1).bind fun xs h2 => mtV m x xs h2 else .no
  | .rng1 a => { Den.none with i := fun ρ h => ((ev call a).v ρ h).bind fun x h1 => match x with | .int k => if k.natAbs < 4611686018427387904 then .ok (.rng 0 k.toNat) h1 else .no | _ => .no }
  | .rng2 a b => { Den.none with i := fun ρ h => ((ev call a).v ρ h).bind fun x h1 => ((ev call b).v ρ h1).bind fun y h2 => match x, y with
      | .int j, .int k => if j.natAbs < 4611686018427387904 ∧ k.natAbs < 4611686018427387904 then .ok (.rng j (k - j).toNat) h2 else .no
      | _, _ => .no }
  | .lc own t it cond elt => .ofV fun ρ h => ((ev call it).i ρ h).bind fun its h1 => lcLoop h1.length t (wipeR ρ own) (ev call cond).t (ev call elt).v its its.len 0 (h1 ++ [.lst []])

/-! ### statements -/
inductive RS where
  | no | nx (ρ : Rho) (h : MH) | rt (v : Val) (h : MH) | bk (ρ : Rho) (h : MH) | ct (ρ : Rho) (h : MH) | ex (c : Nat) (as : List Val) (ρ : Rho) (h : MH)
def RS.andThen (r : RS) (f : Rho → MH → RS) : RS :=
  match r with
  | .nx ρ h => f ρ h
  | r => r
@[simp] theorem RS.andThen_no (f : Rho → MH → RS) : RS.no.andThen f = .no := rfl
@[simp] theorem RS.andThen_nx (ρ : Rho) (h : MH) (f : Rho → MH → RS) : (RS.nx ρ h).andThen f = f ρ h := rfl
@[simp] theorem RS.andThen_rt (v : Val) (h : MH) (f : Rho → MH → RS) : (RS.rt v h).andThen f = .rt v h := rfl
@[simp] theorem RS.andThen_bk (ρ : Rho) (h : MH) (f : Rho → MH → RS) : (RS.bk ρ h).andThen f = .bk ρ h := rfl
@[simp] theorem RS.andThen_ct (ρ : Rho) (h : MH) (f : Rho → MH → RS) : (RS.ct ρ h).andThen f = .ct ρ h := rfl
@[simp] theorem RS.andThen_ex (c : Nat) (as : List Val) (ρ : Rho) (h : MH) (f : Rho → MH → RS) : (RS.ex c as ρ h).andThen f = .ex c as ρ h := rfl
/-- an expression's outcome in a statement -/
def R.toS {α : Type} (ρ : Rho) (r : R α) (f : α → MH → RS) : RS :=
  match r with
  | .no => .no
  | .ok a h => f a h
  | .ex c as h => .ex c as ρ h
@[simp] theorem R.toS_no {α : Type} (ρ : Rho) (f : α → MH → RS) : (R.no : R α).toS ρ f = .no := rfl
@[simp] theorem R.toS_ok {α : Type} (ρ : Rho) (a : α) (h : MH) (f : α → MH → RS) : (R.ok a h).toS ρ f = f a h := rfl
@[simp] theorem R.toS_ex {α : Type} (ρ : Rho) (c : Nat) (as : List Val) (h : MH) (f : α → MH → RS) : (R.ex c as h : R α).toS ρ f = .ex c as ρ h := rfl
def whl (c : Rho → MH → R Bool) (b : Rho → MH → RS) : Nat → Rho → MH → RS
  | 0, _, _ => .no
  | n + 1, ρ, h => (c ρ h).toS ρ fun x h1 => if x then
      (match b ρ h1 with
      | .nx ρ' h' => whl c b n ρ' h'
      | .ct ρ' h' => whl c b n ρ' h'
      | .bk ρ' h' => .nx ρ' h'
      | r => r) else .nx ρ h1
def forL (t : NT) (b : Rho → MH → RS) (it : Items) : Nat → Nat → Rho → MH → RS
  | 0, _, ρ, h => if it.fin h then .nx ρ h else .no
  | m + 1, i, ρ, h =>
    match it.get h i with
    | some x => match setN t x ρ with
      | some ρ1 => match b ρ1 h with
        | .nx ρ' h' => forL t b it m (i + 1) ρ' h'
        | .ct ρ' h' => forL t b it m (i + 1) ρ' h'
        | .bk ρ' h' => .nx ρ' h'
        | r => r
      | Option.none => .no
    | Option.none => .no
def augF : Operator → Option (Int → Int → Int)
  | .Add => some fun i j => i + j
  | .Sub => some fun i j => i - j
  | _ => none
def manyTurns : Nat := 1000000000000
def evS (call : CallT) : S → Rho → MH → RS
  | .skip => fun ρ h => .nx ρ h
  | .seq a b => fun ρ h => (evS call a ρ h).andThen (evS call b)
  | .asg t e => fun ρ h => ((ev call e).v ρ h).toS ρ fun v h1 => match t with
      | .nt t => match setN t v ρ with | some ρ' => .nx ρ' h1 | Option.none => .no
      | .sub o i => ((ev call o).v ρ h1).toS ρ fun x h2 => ((ev call i).v ρ h2).toS ρ fun y h3 => (setV x y v h3).toS ρ fun _ h4 => .nx ρ h4
  | .aug i o e => fun ρ h => match (ρ[i]?).join, augF o with
      | some (.int a), some f => ((ev call e).v ρ h).toS ρ fun y h1 => match y with
        | .int b => .nx (ρ.set i (some (.int (f a b)))) h1
        | _ => .no
      | _, _ => .no
  | .expr e => fun ρ h => ((ev call e).v ρ h).toS ρ fun _ h1 => .nx ρ h1
  | .ret e => fun ρ h => ((ev call e).v ρ h).toS ρ fun v h1 => .rt v h1
  | .retn => fun _ h => .rt .non h
  | .ite c a b => fun ρ h => ((ev call c).t ρ h).toS ρ fun x h1 => if x then evS call a ρ h1 else evS call b ρ h1
  | .whl c b => fun ρ h => whl (ev call c).t (evS call b) manyTurns ρ h
  | .for_ t it b => fun ρ h => ((ev call it).i ρ h).toS ρ fun its h1 => forL t (evS call b) its its.len 0 ρ h1
  | .brk => fun ρ h => .bk ρ h
  | .cnt => fun ρ h => .ct ρ h
  | .never => fun _ _ => .no

/-- a def: its parameters, its names, its body -/
structure Fn where
  np : Nat
  nn : Nat
  body : S
def callK (ft : List Fn) : Nat → CallT
  | 0 => fun _ _ _ => .no
  | k + 1 => fun f vs h => match ft[f]? with
    | some F => if vs.length = F.np ∧ F.np ≤ F.nn then
        (match evS (callK ft k) F.body (vs.map some ++ List.replicate (F.nn - vs.length) Option.none) h with
        | .rt v h' => .ok v h'
        | .nx _ h' => .ok .non h'
        | _ => .no) else .no
    | Option.none => .no
end Gu
end

section
set_option Elab.async false
set_option linter.all false
set_option maxRecDepth 100000
/-! Gu2: how values and the heap of numbered lists lie in the machine's heap; operations by values. -/
namespace Gu
open PySem PySem.Spec PyProof.Rows L2

def toS (s : List Nat) : Str := ⟨s.toArray⟩
@[simp] theorem toS_len (s : List Nat) : (toS s).length = s.length := by
  show s.toArray.size = s.length
  simp
@[simp] theorem toS_cps (s : List Nat) : (toS s).cps.toList = s := by unfold toS; simp
theorem toS_inj {a b : List Nat} (h : toS a = toS b) : a = b := by
  have := congrArg (fun x : Str => x.cps.toList) h
  simpa using this
/-- signs of a text, its length -/
def okS (s : List Nat) : Prop := (∀ c ∈ s, c < 1114112) ∧ s.length ≤ sizeLine
theorem okS.nil : okS [] := ⟨fun _ h => (by cases h), Nat.zero_le _⟩
theorem okS.cut {s : List Nat} (h : okS s) (lo hi : Option Int) : okS (cutL s lo hi) := by
  unfold cutL
  refine ⟨fun c hc => h.1 c (List.mem_of_mem_drop (List.mem_of_mem_take hc)), ?_⟩
  rw [List.length_take, List.length_drop]
  have := h.2
  omega
theorem okS.one {s : List Nat} (h : okS s) {c : Nat} (hc : c ∈ s) : okS [c] := ⟨fun d hd => by
  have e : d = c := by simpa using hd
  subst e
  exact h.1 d hc, by show 1 ≤ sizeLine; decide⟩

/-- a list that stands still: known to the object, or of the module -/
def SqF (K : PySem.W.Frag) (H : Hp) (a : Addr) (xs : List V) : Prop :=
  (∃ o, H a = some (.frz o (.lst xs))) ∨ ∃ o its n, List.lookup a K = some o ∧ o.cls = Value.type "list" ∧ o.dict = none ∧ o.data = Data.seq its n ∧ its.size ≤ sizeLine ∧ Vals xs its.toList
theorem SqF.sq {K : PySem.W.Frag} {H : Hp} {a : Addr} {xs : List V} (h : SqF K H a xs) : SqL K H a xs := by
  rcases h with ⟨o, h⟩ | h
  · exact .inl (.inr ⟨o, h⟩)
  · exact .inr h
mutual
def RV (K : PySem.W.Frag) (H : Hp) (L : List Addr) : Val → V → Prop
  | .non, x => x = .non
  | .bl b, x => x = .bl b
  | .int i, x => x = .int i
  | .str s, x => x = .str (toS s) ∧ okS s
  | .tup vs, x => ∃ a xs, x = .ref a ∧ SqT K H a xs ∧ RVs K H L vs xs
  | .fro vs, x => ∃ a xs, x = .ref a ∧ SqF K H a xs ∧ RVs K H L vs xs
  | .loc n, x => ∃ a, L[n]? = some a ∧ x = .ref a
def RVs (K : PySem.W.Frag) (H : Hp) (L : List Addr) : List Val → List V → Prop
  | [], xs => xs = []
  | v :: vs, xs => ∃ x r, xs = x :: r ∧ RV K H L v x ∧ RVs K H L vs r
end
/-- what may be built on -/
structure Ext (K : PySem.W.Frag) (H : Hp) (L : List Addr) (H' : Hp) (L' : List Addr) : Prop where
  pre : L <+: L'
  tup : ∀ a xs, SqT K H a xs → SqT K H' a xs
  fro : ∀ a xs, SqF K H a xs → SqF K H' a xs
theorem Ext.refl {K : PySem.W.Frag} {H : Hp} {L : List Addr} : Ext K H L H L := ⟨List.prefix_rfl, fun _ _ h => h, fun _ _ h => h⟩
theorem Ext.trans {K : PySem.W.Frag} {H H1 H2 : Hp} {L L1 L2 : List Addr} (a : Ext K H L H1 L1) (b : Ext K H1 L1 H2 L2) : Ext K H L H2 L2 :=
  ⟨a.pre.trans b.pre, fun c xs h => b.tup c xs (a.tup c xs h), fun c xs h => b.fro c xs (a.fro c xs h)⟩
theorem get_pre {α : Type} {L L' : List α} (h : L <+: L') {n : Nat} {a : α} (e : L[n]? = some a) : L'[n]? = some a := by
  obtain ⟨t, rfl⟩ := h
  obtain ⟨hn, _⟩ := List.getElem?_eq_some_iff.mp e
  rw [List.getElem?_append_left hn]
  exact e
section
variable {K : PySem.W.Frag} {H H' : Hp} {L L' : List Addr}
mutual
theorem RV.mono (x : Ext K H L H' L') : ∀ (v : Val) (y : V), RV K H L v y → RV K H' L' v y
  | .non, y, h => by unfold RV at *; exact h
  | .bl _, y, h => by unfold RV at *; exact h
  | .int _, y, h => by unfold RV at *; exact h
  | .str _, y, h => by unfold RV at *; exact h
  | .tup vs, y, h => by
    unfold RV at *
    obtain ⟨a, xs, e, h1, h2⟩ := h
    exact ⟨a, xs, e, x.tup _ _ h1, RVs.mono x vs xs h2⟩
  | .fro vs, y, h => by
    unfold RV at *
    obtain ⟨a, xs, e, h1, h2⟩ := h
    exact ⟨a, xs, e, x.fro _ _ h1, RVs.mono x vs xs h2⟩
  | .loc n, y, h => by
    unfold RV at *
    obtain ⟨a, h1, h2⟩ := h
    exact ⟨a, get_pre x.pre h1, h2⟩
theorem RVs.mono (x : Ext K H L H' L') : ∀ (vs : List Val) (ys : List V), RVs K H L vs ys → RVs K H' L' vs ys
  | [], ys, h => by unfold RVs at *; exact h
  | v :: vs, ys, h => by
    unfold RVs at *
    obtain ⟨y, r, e, h1, h2⟩ := h
    exact ⟨y, r, e, RV.mono x v y h1, RVs.mono x vs r h2⟩
end
theorem RVs.nil : RVs K H L [] [] := by unfold RVs; rfl
theorem RVs.cons {v : Val} {vs : List Val} {y : V} {ys : List V} (h : RV K H L v y) (t : RVs K H L vs ys) : RVs K H L (v :: vs) (y :: ys) := by
  unfold RVs; exact ⟨y, ys, rfl, h, t⟩
theorem RVs.inv {v : Val} {vs : List Val} {ys : List V} (h : RVs K H L (v :: vs) ys) : ∃ y r, ys = y :: r ∧ RV K H L v y ∧ RVs K H L vs r := by
  unfold RVs at h; exact h
theorem RVs.inv0 {ys : List V} (h : RVs K H L [] ys) : ys = [] := by unfold RVs at h; exact h
theorem RVs.length : ∀ {vs : List Val} {ys : List V}, RVs K H L vs ys → vs.length = ys.length
  | [], ys, h => by rw [RVs.inv0 h]; rfl
  | v :: vs, ys, h => by
    obtain ⟨y, r, rfl, _, h2⟩ := RVs.inv h
    simp [RVs.length h2]
theorem RVs.get : ∀ {vs : List Val} {ys : List V} {i : Nat} {v : Val}, RVs K H L vs ys → vs[i]? = some v → ∃ y, ys[i]? = some y ∧ RV K H L v y
  | [], _, _, _, _, e => by simp at e
  | w :: vs, ys, 0, v, h, e => by
    obtain ⟨y, r, rfl, h1, _⟩ := RVs.inv h
    have e' : w = v := by simpa using e
    subst e'
    exact ⟨y, rfl, h1⟩
  | w :: vs, ys, i + 1, v, h, e => by
    obtain ⟨y, r, rfl, _, h2⟩ := RVs.inv h
    obtain ⟨z, h3, h4⟩ := RVs.get (i := i) h2 (by simpa using e)
    exact ⟨z, by simpa using h3, h4⟩
theorem RVs.append : ∀ {vs ws : List Val} {ys zs : List V}, RVs K H L vs ys → RVs K H L ws zs → RVs K H L (vs ++ ws) (ys ++ zs)
  | [], _, ys, _, h, k => by rw [RVs.inv0 h]; exact k
  | v :: vs, _, ys, _, h, k => by
    obtain ⟨y, r, rfl, h1, h2⟩ := RVs.inv h
    exact RVs.cons h1 (RVs.append h2 k)
theorem RVs.drop : ∀ (n : Nat) {vs : List Val} {ys : List V}, RVs K H L vs ys → RVs K H L (vs.drop n) (ys.drop n)
  | 0, _, _, h => h
  | n + 1, [], ys, h => by rw [RVs.inv0 h]; exact RVs.nil
  | n + 1, v :: vs, ys, h => by
    obtain ⟨y, r, rfl, _, h2⟩ := RVs.inv h
    exact RVs.drop n h2
theorem RVs.take : ∀ (n : Nat) {vs : List Val} {ys : List V}, RVs K H L vs ys → RVs K H L (vs.take n) (ys.take n)
  | 0, _, _, h => RVs.nil
  | n + 1, [], ys, h => by rw [RVs.inv0 h]; exact RVs.nil
  | n + 1, v :: vs, ys, h => by
    obtain ⟨y, r, rfl, h1, h2⟩ := RVs.inv h
    exact RVs.cons h1 (RVs.take n h2)
theorem RVs.set : ∀ (n : Nat) {vs : List Val} {ys : List V} {w : Val} {z : V}, RVs K H L vs ys → RV K H L w z → RVs K H L (vs.set n w) (ys.set n z)
  | _, [], ys, _, _, h, _ => by rw [RVs.inv0 h]; exact RVs.nil
  | 0, v :: vs, ys, _, _, h, k => by
    obtain ⟨y, r, rfl, h1, h2⟩ := RVs.inv h
    exact RVs.cons k h2
  | n + 1, v :: vs, ys, _, _, h, k => by
    obtain ⟨y, r, rfl, h1, h2⟩ := RVs.inv h
    exact RVs.cons h1 (RVs.set n h2 k)
theorem RVs.dropLast {vs : List Val} {ys : List V} (h : RVs K H L vs ys) : RVs K H L vs.dropLast ys.dropLast := by
  rw [List.dropLast_eq_take, List.dropLast_eq_take, ← h.length]
  exact h.take _
theorem RVs.cut {vs : List Val} {ys : List V} (h : RVs K H L vs ys) (lo hi : Option Int) : RVs K H L (cutL vs lo hi) (cutV ys lo hi) := by
  unfold cutL cutV
  rw [← h.length]
  exact (h.drop _).take _
end

/-- what stands at a number -/
def MOk (K : PySem.W.Frag) (H : Hp) (L : List Addr) (a : Addr) : MO → Prop
  | .lst vs => ∃ xs, H a = some (.lst xs) ∧ RVs K H L vs xs
structure HR (K : PySem.W.Frag) (H : Hp) (L : List Addr) (h : MH) : Prop where
  len : L.length = h.length
  nd : L.Nodup
  ok : ∀ (n : Nat) (o : MO), h[n]? = some o → ∃ a, L[n]? = some a ∧ MOk K H L a o
section
variable {K : PySem.W.Frag} {H H' : Hp} {L L' : List Addr} {h : MH}
theorem HR.at (r : HR K H L h) {n : Nat} {a : Addr} {o : MO} (e : h[n]? = some o) (ea : L[n]? = some a) : MOk K H L a o := by
  obtain ⟨b, e1, k⟩ := r.ok n o e
  rw [ea] at e1; cases e1
  exact k
theorem HR.seq (r : HR K H L h) {n : Nat} {a : Addr} {vs : List Val} (e : seqL h n = some vs) (ea : L[n]? = some a) : ∃ xs, SqL K H a xs ∧ RVs K H L vs xs := by
  unfold seqL at e
  split at e
  · rename_i ys eh
    cases e
    obtain ⟨xs, h1, h2⟩ := r.at eh ea
    exact ⟨xs, SqL.of h1, h2⟩
  · cases e
theorem MOk.mono (x : Ext K H L H' L') {a : Addr} (e : H' a = H a) : ∀ {o : MO}, MOk K H L a o → MOk K H' L' a o
  | .lst vs, ⟨xs, h1, h2⟩ => ⟨xs, e.trans h1, RVs.mono x vs xs h2⟩
theorem sqT_upd {a p : Addr} {xs : List V} {o : HO} (h : SqT K H a xs) (hp : ∀ xs, H p ≠ some (.tup xs)) (hf : ∀ ob u, H p ≠ some (.frz ob u)) : SqT K (upd H p o) a xs := by
  rcases h with (h | ⟨ob, h⟩) | h
  · refine .inl (.inl ?_)
    have : a ≠ p := fun e => hp xs (e ▸ h)
    rw [upd_ne this]; exact h
  · refine .inl (.inr ⟨ob, ?_⟩)
    have : a ≠ p := fun e => hf _ _ (e ▸ h)
    rw [upd_ne this]; exact h
  · exact .inr h
theorem sqF_upd {a p : Addr} {xs : List V} {o : HO} (h : SqF K H a xs) (hf : ∀ ob u, H p ≠ some (.frz ob u)) : SqF K (upd H p o) a xs := by
  rcases h with ⟨ob, h⟩ | h
  · refine .inl ⟨ob, ?_⟩
    have : a ≠ p := fun e => hf _ _ (e ▸ h)
    rw [upd_ne this]; exact h
  · exact .inr h
theorem Ext.new {p : Addr} {o : HO} (hp : H p = none) : Ext K H L (upd H p o) L :=
  ⟨List.prefix_rfl, fun a xs h => sqT_upd h (by rw [hp]; exact fun _ q => nomatch q) (by rw [hp]; exact fun _ _ q => nomatch q), fun a xs h => sqF_upd h (by rw [hp]; exact fun _ _ q => nomatch q)⟩
/-- a new object that is no list of ours -/
theorem HR.new (r : HR K H L h) {p : Addr} {o : HO} (hp : H p = none) : HR K (upd H p o) L h := by
  refine ⟨r.len, r.nd, fun n ob e => ?_⟩
  obtain ⟨a, ea, k⟩ := r.ok n ob e
  refine ⟨a, ea, k.mono (Ext.new hp) ?_⟩
  refine upd_ne ?_
  rintro rfl
  cases ob with
  | lst vs => obtain ⟨xs, h1, _⟩ := k; rw [hp] at h1; cases h1
theorem HR.live (r : HR K H L h) {a : Addr} (ha : a ∈ L) : H a ≠ none := by
  obtain ⟨n, hn, rfl⟩ := List.getElem_of_mem ha
  have hn' : n < h.length := by rw [← r.len]; exact hn
  obtain ⟨b, eb, k⟩ := r.ok n h[n] (List.getElem?_eq_getElem hn')
  rw [List.getElem?_eq_getElem hn] at eb
  cases eb
  intro z
  cases e : h[n] with
  | lst vs => rw [e] at k; obtain ⟨xs, h1, _⟩ := k; rw [z] at h1; cases h1
theorem Ext.add {p : Addr} {o : HO} (hp : H p = none) : Ext K H L (upd H p o) (L ++ [p]) :=
  ⟨List.prefix_append _ _, (Ext.new (K := K) (L := L) (o := o) hp).tup, (Ext.new (K := K) (L := L) (o := o) hp).fro⟩
/-- a new list of ours -/
theorem HR.add (r : HR K H L h) {p : Addr} {vs : List Val} {xs : List V} (hp : H p = none) (k : RVs K H L vs xs) : HR K (upd H p (.lst xs)) (L ++ [p]) (h ++ [.lst vs]) := by
  have ext := Ext.add (K := K) (L := L) (o := .lst xs) hp
  refine ⟨by simp [r.len], ?_, fun n ob e => ?_⟩
  · rw [List.nodup_append]
    refine ⟨r.nd, by simp, fun a ha b hb => ?_⟩
    have : b = p := by simpa using hb
    subst this
    rintro rfl
    exact r.live ha hp
  · by_cases hn : n < h.length
    · rw [List.getElem?_append_left hn] at e
      obtain ⟨a, ea, k'⟩ := r.ok n ob e
      refine ⟨a, get_pre ext.pre ea, k'.mono ext ?_⟩
      refine upd_ne ?_
      rintro rfl
      exact r.live (List.mem_of_getElem? ea) hp
    · have hn2 : n = h.length := by
        obtain ⟨q, _⟩ := List.getElem?_eq_some_iff.mp e
        simp at q
        omega
      subst hn2
      have e' : ob = .lst vs := by simpa using e.symm
      subst e'
      refine ⟨p, by rw [← r.len]; simp, xs, upd_same, RVs.mono ext vs xs k⟩
theorem HR.ne_of (r : HR K H L h) {n m : Nat} {a b : Addr} (ea : L[n]? = some a) (eb : L[m]? = some b) (hnm : n ≠ m) : a ≠ b := by
  rintro rfl
  obtain ⟨h1, e1⟩ := List.getElem?_eq_some_iff.mp ea
  obtain ⟨h2, e2⟩ := List.getElem?_eq_some_iff.mp eb
  exact hnm ((List.getElem_inj r.nd).mp (e1.trans e2.symm))
theorem Ext.write {p : Addr} {zs : List V} {o : HO} (hp : H p = some (.lst zs)) : Ext K H L (upd H p o) L :=
  ⟨List.prefix_rfl, fun a xs q => sqT_upd q (by rw [hp]; exact fun _ z => nomatch z) (by rw [hp]; exact fun _ _ z => nomatch z), fun a xs h => sqF_upd h (by rw [hp]; exact fun _ _ z => nomatch z)⟩
/-- a list of ours changed -/
theorem HR.write (r : HR K H L h) {n : Nat} {p : Addr} {zs : List V} {vs : List Val} {xs : List V} (ep : L[n]? = some p) (hp : H p = some (.lst zs)) (k : RVs K H L vs xs) : HR K (upd H p (.lst xs)) L (h.set n (.lst vs)) := by
  have ext : Ext K H L (upd H p (.lst xs)) L := Ext.write hp
  refine ⟨by rw [List.length_set]; exact r.len, r.nd, fun m ob e => ?_⟩
  by_cases hm : n = m
  · subst hm
    obtain ⟨hl, _⟩ := List.getElem?_eq_some_iff.mp ep
    have hl' : n < h.length := by rw [← r.len]; exact hl
    rw [List.getElem?_set_self hl'] at e
    cases e
    exact ⟨p, ep, xs, upd_same, RVs.mono ext vs xs k⟩
  · rw [List.getElem?_set_ne hm] at e
    obtain ⟨a, ea, k'⟩ := r.ok m ob e
    exact ⟨a, ea, k'.mono ext (upd_ne (r.ne_of ea ep (Ne.symm hm)))⟩
end

/-! ### outcomes -/
abbrev XW := Nat → List Val → MH → Hp → List Addr → Prop
def outV {α : Type} (K : PySem.W.Frag) (W : XW) (H : Hp) (L : List Addr) (r : R α) (k : α → MH → Hp → List Addr → Prop) : Prop :=
  match r with
  | .no => False
  | .ok a h' => ∀ H' L', HR K H' L' h' → Ext K H L H' L' → k a h' H' L'
  | .ex c as h' => ∀ H' L', HR K H' L' h' → Ext K H L H' L' → W c as h' H' L'
section
variable {K : PySem.W.Frag} {W : XW} {H H' : Hp} {L L' : List Addr} {h : MH} {α β : Type}
theorem outV.bind {r : R α} {f : α → MH → R β} {k : β → MH → Hp → List Addr → Prop} (q : outV K W H L (r.bind f) k) :
    outV K W H L r fun a h1 H1 L1 => outV K W H1 L1 (f a h1) k := by
  cases r with
  | no => exact q
  | ok a h1 =>
    intro H1 L1 r1 x1
    have q' : outV K W H L (f a h1) k := q
    cases e : f a h1 with
    | no => rw [e] at q'; exact q'
    | ok b h2 => rw [e] at q'; exact fun H2 L2 r2 x2 => q' H2 L2 r2 (x1.trans x2)
    | ex c as h2 => rw [e] at q'; exact fun H2 L2 r2 x2 => q' H2 L2 r2 (x1.trans x2)
  | ex c as h1 => exact q
theorem outV.imp {r : R α} {k k' : α → MH → Hp → List Addr → Prop} (q : outV K W H L r k) (i : ∀ a h' H' L', HR K H' L' h' → Ext K H L H' L' → k a h' H' L' → k' a h' H' L') : outV K W H L r k' := by
  cases r with
  | no => exact q
  | ok a h1 => exact fun H1 L1 r1 x1 => i _ _ _ _ r1 x1 (q H1 L1 r1 x1)
  | ex c as h1 => exact q
theorem outV.from (x : Ext K H L H' L') {r : R α} {k : α → MH → Hp → List Addr → Prop} (q : outV K W H L r k) : outV K W H' L' r k := by
  cases r with
  | no => exact q
  | ok a h1 => exact fun H1 L1 r1 x1 => q H1 L1 r1 (x.trans x1)
  | ex c as h1 => exact fun H1 L1 r1 x1 => q H1 L1 r1 (x.trans x1)
/-- it answers where it stands -/
theorem outV.here {a : α} {k : α → MH → Hp → List Addr → Prop} (q : outV K W H L (.ok a h) k) (r : HR K H L h) : k a h H L := q H L r .refl
theorem outV.ofO {o : Option α} {k : α → MH → Hp → List Addr → Prop} (q : outV K W H L (R.ofO o h) k) (r : HR K H L h) : ∃ a, o = some a ∧ k a h H L := by
  cases o with
  | none => exact q.elim
  | some a => exact ⟨a, rfl, q.here r⟩
end
end Gu
end

section
set_option Elab.async false
set_option linter.all false
set_option maxRecDepth 100000
/-! Gu3: operations by values. -/
namespace Gu
open PySem PySem.Spec PyProof.Rows L2

theorem toS_append (a b : List Nat) : toS a ++ toS b = toS (a ++ b) := by
  show (⟨a.toArray ++ b.toArray⟩ : Str) = ⟨(a ++ b).toArray⟩
  simp
section
variable {K : PySem.W.Frag} {W : XW} {H H' : Hp} {L L' : List Addr} {h : MH} {x y : V}
theorem RV.non_of (h : RV K H L .non x) : x = .non := by unfold RV at h; exact h
theorem RV.bl_of {b : Bool} (h : RV K H L (.bl b) x) : x = .bl b := by unfold RV at h; exact h
theorem RV.int_of {b : Int} (h : RV K H L (.int b) x) : x = .int b := by unfold RV at h; exact h
theorem RV.str_of {s : List Nat} (h : RV K H L (.str s) x) : x = .str (toS s) ∧ okS s := by unfold RV at h; exact h
theorem RV.tup_of {vs : List Val} (h : RV K H L (.tup vs) x) : ∃ a xs, x = .ref a ∧ SqT K H a xs ∧ RVs K H L vs xs := by unfold RV at h; exact h
theorem RV.loc_of {n : Nat} (h : RV K H L (.loc n) x) : ∃ a, L[n]? = some a ∧ x = .ref a := by unfold RV at h; exact h
theorem RV.fro_of {vs : List Val} (h : RV K H L (.fro vs) x) : ∃ a xs, x = .ref a ∧ SqF K H a xs ∧ RVs K H L vs xs := by unfold RV at h; exact h
theorem RV.mk_fro {vs : List Val} {a : Addr} {xs : List V} (h : SqF K H a xs) (k : RVs K H L vs xs) : RV K H L (.fro vs) (.ref a) := by unfold RV; exact ⟨a, xs, rfl, h, k⟩
theorem RV.mk_non : RV K H L .non .non := by unfold RV; rfl
theorem RV.mk_bl {b : Bool} : RV K H L (.bl b) (.bl b) := by unfold RV; rfl
theorem RV.mk_int {i : Int} : RV K H L (.int i) (.int i) := by unfold RV; rfl
theorem RV.mk_str {s : List Nat} (h : okS s) : RV K H L (.str s) (.str (toS s)) := by unfold RV; exact ⟨rfl, h⟩
theorem RV.mk_tup {vs : List Val} {a : Addr} {xs : List V} (h : SqT K H a xs) (k : RVs K H L vs xs) : RV K H L (.tup vs) (.ref a) := by unfold RV; exact ⟨a, xs, rfl, h, k⟩
theorem RV.mk_loc {n : Nat} {a : Addr} (h : L[n]? = some a) : RV K H L (.loc n) (.ref a) := by unfold RV; exact ⟨a, h, rfl⟩
theorem RV.newLoc (r : HR K H L h) {p : Addr} {H' : Hp} : RV K H' (L ++ [p]) (.loc h.length) (.ref p) := RV.mk_loc (by rw [← r.len]; simp)
theorem okS.app {a b : List Nat} (h : okS a) (k : okS b) (l : a.length + b.length ≤ sizeLine) : okS (a ++ b) := by
  refine ⟨fun c hc => (List.mem_append.mp hc).elim (h.1 c) (k.1 c), ?_⟩
  rw [List.length_append]
  exact l
theorem at_mem {α : Type} {xs : List α} {i : Int} {v : α} (e : atI xs i = some v) : v ∈ xs := by
  obtain ⟨j, _, h, _⟩ := atI_get e
  exact List.mem_of_getElem? h
theorem RVs.atI {vs : List Val} {ys : List V} {i : Int} {v : Val} (h : RVs K H L vs ys) (e : L2.atI vs i = some v) : ∃ y, L2.atI ys i = some y ∧ RV K H L v y := by
  unfold L2.atI at e ⊢
  rw [← h.length]
  cases q : ixN vs.length i with
  | none => rw [q] at e; cases e
  | some j =>
    rw [q] at e
    exact h.get e

/-! ### truth -/
theorem tru_of (r : HR K H L h) {v : Val} {k : Bool} (hv : RV K H L v x) (e : truV h v = some k) : TruV K x H k := by
  cases v with
  | non => rw [hv.non_of]; cases e; rfl
  | bl b => rw [hv.bl_of]; cases e; rfl
  | int i => rw [hv.int_of]; cases e; rfl
  | str s =>
    obtain ⟨rfl, hk⟩ := hv.str_of
    cases e
    refine ⟨by rw [toS_len]; exact hk.2, ?_⟩
    rw [toS_len]
    cases s with
    | nil => rfl
    | cons c t =>
      have : (((c :: t).length : Nat) : Int) ≠ 0 := by simp; omega
      simpa using this
  | tup vs =>
    obtain ⟨a, xs, rfl, h1, h2⟩ := hv.tup_of
    cases e
    refine .inr (.inl ⟨xs, h1, ?_⟩)
    cases vs with
    | nil => rw [h2.inv0]; rfl
    | cons w ws => obtain ⟨y, t, rfl, _⟩ := h2.inv; rfl
  | fro vs =>
    obtain ⟨a, xs, rfl, h1, h2⟩ := hv.fro_of
    cases e
    refine .inl ⟨xs, h1.sq, ?_⟩
    cases vs with
    | nil => rw [h2.inv0]; rfl
    | cons w ws => obtain ⟨y, t, rfl, _⟩ := h2.inv; rfl
  | loc n =>
    obtain ⟨a, h1, rfl⟩ := hv.loc_of
    have e : (seqL h n).map (fun xs => !xs.isEmpty) = some k := e
    cases q : seqL h n with
    | none => rw [q] at e; cases e
    | some vs =>
      rw [q] at e
      obtain ⟨xs, h2, h3⟩ := r.seq q h1
      refine .inl ⟨xs, h2, ?_⟩
      have e' : (!vs.isEmpty) = k := Option.some.inj e
      rw [← e']
      cases vs with
      | nil => rw [h3.inv0]; rfl
      | cons w ws => obtain ⟨y, t, rfl, _⟩ := h3.inv; rfl

/-! ### equality -/
mutual
def toD : Val → PyData
  | .non => .none
  | .bl b => .bool b
  | .int i => .int i
  | .str s => .str (toS s)
  | .tup vs => .tuple (toDs vs)
  | .fro _ => .none
  | .loc _ => .none
def toDs : List Val → List PyData
  | [] => []
  | v :: vs => toD v :: toDs vs
end
theorem str_beq (a b : List Nat) : (toS a == toS b) = (a == b) := by
  rw [Bool.eq_iff_iff]
  simp only [beq_iff_eq]
  exact ⟨toS_inj, fun e => e ▸ rfl⟩
mutual
theorem eqv_toD : ∀ (a b : Val), Val.flat a = true → Val.flat b = true → PyData.eqv (toD a) (toD b) = Val.eqb a b
  | .tup a, .tup b, fa, fb => by
    unfold toD PyData.eqv Val.eqb
    exact eqv_toDs a b (by unfold Val.flat at fa; exact fa) (by unfold Val.flat at fb; exact fb)
  | .str a, .str b, _, _ => by unfold toD PyData.eqv Val.eqb; exact str_beq a b
  | .loc _, _, fa, _ => by unfold Val.flat at fa; cases fa
  | .fro _, _, fa, _ => by unfold Val.flat at fa; cases fa
  | .non, .fro _, _, fb => by unfold Val.flat at fb; cases fb
  | .bl _, .fro _, _, fb => by unfold Val.flat at fb; cases fb
  | .int _, .fro _, _, fb => by unfold Val.flat at fb; cases fb
  | .str _, .fro _, _, fb => by unfold Val.flat at fb; cases fb
  | .tup _, .fro _, _, fb => by unfold Val.flat at fb; cases fb
  | .non, .loc _, _, fb => by unfold Val.flat at fb; cases fb
  | .bl _, .loc _, _, fb => by unfold Val.flat at fb; cases fb
  | .int _, .loc _, _, fb => by unfold Val.flat at fb; cases fb
  | .str _, .loc _, _, fb => by unfold Val.flat at fb; cases fb
  | .tup _, .loc _, _, fb => by unfold Val.flat at fb; cases fb
  | .non, .non, _, _ => by unfold toD PyData.eqv Val.eqb; rfl
  | .non, .bl _, _, _ => by unfold toD PyData.eqv Val.eqb; rfl
  | .non, .int _, _, _ => by unfold toD PyData.eqv Val.eqb; rfl
  | .non, .str _, _, _ => by unfold toD PyData.eqv Val.eqb; rfl
  | .non, .tup _, _, _ => by unfold toD PyData.eqv Val.eqb; rfl
  | .bl _, .non, _, _ => by unfold toD PyData.eqv Val.eqb; rfl
  | .bl _, .bl _, _, _ => by unfold toD PyData.eqv Val.eqb; rfl
  | .bl _, .int _, _, _ => by unfold toD PyData.eqv Val.eqb; rfl
  | .bl _, .str _, _, _ => by unfold toD PyData.eqv Val.eqb; rfl
  | .bl _, .tup _, _, _ => by unfold toD PyData.eqv Val.eqb; rfl
  | .int _, .non, _, _ => by unfold toD PyData.eqv Val.eqb; rfl
  | .int _, .bl _, _, _ => by unfold toD PyData.eqv Val.eqb; rfl
  | .int _, .int _, _, _ => by unfold toD PyData.eqv Val.eqb; rfl
  | .int _, .str _, _, _ => by unfold toD PyData.eqv Val.eqb; rfl
  | .int _, .tup _, _, _ => by unfold toD PyData.eqv Val.eqb; rfl
  | .str _, .non, _, _ => by unfold toD PyData.eqv Val.eqb; rfl
  | .str _, .bl _, _, _ => by unfold toD PyData.eqv Val.eqb; rfl
  | .str _, .int _, _, _ => by unfold toD PyData.eqv Val.eqb; rfl
  | .str _, .tup _, _, _ => by unfold toD PyData.eqv Val.eqb; rfl
  | .tup _, .non, _, _ => by unfold toD PyData.eqv Val.eqb; rfl
  | .tup _, .bl _, _, _ => by unfold toD PyData.eqv Val.eqb; rfl
  | .tup _, .int _, _, _ => by unfold toD PyData.eqv Val.eqb; rfl
  | .tup _, .str _, _, _ => by unfold toD PyData.eqv Val.eqb; rfl
theorem eqv_toDs : ∀ (a b : List Val), Val.flats a = true → Val.flats b = true → PyData.eqvAll (toDs a) (toDs b) = Val.eqbs a b
  | [], [], _, _ => by unfold toDs PyData.eqvAll Val.eqbs; rfl
  | [], _ :: _, _, _ => by unfold toDs PyData.eqvAll Val.eqbs; rfl
  | _ :: _, [], _, _ => by unfold toDs PyData.eqvAll Val.eqbs; rfl
  | a :: r, b :: t, fa, fb => by
    unfold Val.flats at fa fb
    simp only [Bool.and_eq_true] at fa fb
    unfold toDs PyData.eqvAll Val.eqbs
    rw [eqv_toD a b fa.1 fb.1, eqv_toDs r t fa.2 fb.2]
end
mutual
theorem depth_toD : ∀ (a : Val), (toD a).depth = Val.depth a
  | .non => by unfold toD PyData.depth Val.depth; rfl
  | .bl _ => by unfold toD PyData.depth Val.depth; rfl
  | .int _ => by unfold toD PyData.depth Val.depth; rfl
  | .str _ => by unfold toD PyData.depth Val.depth; rfl
  | .loc _ => by unfold toD PyData.depth Val.depth; rfl
  | .fro _ => by unfold toD PyData.depth Val.depth; rfl
  | .tup vs => by unfold toD PyData.depth Val.depth; rw [depth_toDs vs]
theorem depth_toDs : ∀ (a : List Val), PyData.depthAll (toDs a) = Val.depths a
  | [] => by unfold toDs PyData.depthAll Val.depths; rfl
  | a :: r => by unfold toDs PyData.depthAll Val.depths; rw [depth_toD a, depth_toDs r]
end
mutual
theorem dp_of : ∀ (v : Val) (x : V), RV K H L v x → Val.flat v = true → Dp K H x (toD v) ∧ (toD v).canLay0 = true
  | .non, x, h, _ => by rw [h.non_of]; unfold toD PyData.canLay0; exact ⟨.non, rfl⟩
  | .bl b, x, h, _ => by rw [h.bl_of]; unfold toD PyData.canLay0; exact ⟨.bl b, rfl⟩
  | .int b, x, h, _ => by rw [h.int_of]; unfold toD PyData.canLay0; exact ⟨.int b, rfl⟩
  | .str s, x, h, _ => by
    obtain ⟨rfl, hk⟩ := h.str_of
    unfold toD PyData.canLay0
    refine ⟨.str _, ?_⟩
    unfold PyData.strOk
    rw [Array.all_eq_true']
    intro c hc
    have : c ∈ s := by simpa [toS] using hc
    simpa using hk.1 c this
  | .tup vs, x, h, f => by
    obtain ⟨a, xs, rfl, h1, h2⟩ := h.tup_of
    unfold Val.flat at f
    obtain ⟨h3, h4⟩ := dps_of vs xs h2 f
    unfold toD PyData.canLay0
    exact ⟨.tup h1 h3, h4⟩
  | .loc _, _, _, f => by unfold Val.flat at f; cases f
  | .fro _, _, _, f => by unfold Val.flat at f; cases f
theorem dps_of : ∀ (vs : List Val) (xs : List V), RVs K H L vs xs → Val.flats vs = true → DpAll K H xs (toDs vs) ∧ PyData.canLayAll0 (toDs vs) = true
  | [], xs, h, _ => by rw [h.inv0]; unfold toDs PyData.canLayAll0; exact ⟨.nil, rfl⟩
  | v :: vs, xs, h, f => by
    obtain ⟨y, r, rfl, h1, h2⟩ := h.inv
    unfold Val.flats at f
    simp only [Bool.and_eq_true] at f
    obtain ⟨q1, q2⟩ := dp_of v y h1 f.1
    obtain ⟨q3, q4⟩ := dps_of vs r h2 f.2
    unfold toDs PyData.canLayAll0
    exact ⟨.cons q1 q3, by rw [q2, q4]; rfl⟩
end
/-- an equality that is served, by data -/
theorem eqV_of (r : HR K H L h) {gx gy : Val} {b : Bool} (hx : RV K H L gx x) (hy : RV K H L gy y) (e : eqV? h gx gy = some b) :
    ∃ d e, Dp K H x d ∧ Dp K H y e ∧ d.canLay0 = true ∧ e.canLay0 = true ∧ d.depth ≤ 160 ∧ b = PyData.eqv d e := by
  have loc1 : ∀ {n : Nat} {z : V} {xs : List Val}, RV K H L (.loc n) z → seqL h n = some xs → Val.flats xs = true → Dp K H z (.list (toDs xs)) ∧ (PyData.list (toDs xs)).canLay0 = true := fun {n z xs} hz q f => by
    obtain ⟨a, h1, rfl⟩ := hz.loc_of
    obtain ⟨ys, h2, h3⟩ := r.seq q h1
    obtain ⟨q1, q2⟩ := dps_of xs ys h3 f
    exact ⟨.lst h2 q1, by unfold PyData.canLay0; exact q2⟩
  have dl : ∀ xs : List Val, (PyData.list (toDs xs)).depth = Val.depths xs + 1 := fun xs => by unfold PyData.depth; rw [depth_toDs]
  have neL : ∀ (xs : List Val) (v : Val), Val.flat v = true → PyData.eqv (.list (toDs xs)) (toD v) = false := fun xs v f => by
    cases v <;> first | (unfold toD PyData.eqv; rfl) | (unfold Val.flat at f; cases f)
  have neR : ∀ (xs : List Val) (v : Val), Val.flat v = true → PyData.eqv (toD v) (.list (toDs xs)) = false := fun xs v f => by
    cases v <;> first | (unfold toD PyData.eqv; rfl) | (unfold Val.flat at f; cases f)
  have notloc : ∀ {n : Nat} {v : Val}, Val.flat v = true → v = .loc n → False := fun f z => by subst z; unfold Val.flat at f; cases f
  unfold eqV? at e
  split at e
  · split at e
    · rename_i xs ys q1 q2
      split at e
      · rename_i c
        simp only [Bool.and_eq_true, decide_eq_true_eq] at c
        obtain ⟨d1, k1⟩ := loc1 hx q1 c.1.1.1
        obtain ⟨d2, k2⟩ := loc1 hy q2 c.1.1.2
        refine ⟨_, _, d1, d2, k1, k2, by rw [dl]; omega, ?_⟩
        have e' := Option.some.inj e
        rw [← e']
        unfold PyData.eqv
        exact (eqv_toDs xs ys c.1.1.1 c.1.1.2).symm
      · cases e
    · cases e
  · split at e
    · rename_i xs q1
      split at e
      · rename_i c
        simp only [Bool.and_eq_true, decide_eq_true_eq] at c
        obtain ⟨d1, k1⟩ := loc1 hx q1 c.1.1.1
        obtain ⟨d2, k2⟩ := dp_of _ _ hy c.1.1.2
        refine ⟨_, _, d1, d2, k1, k2, by rw [dl]; omega, ?_⟩
        have e' := Option.some.inj e
        rw [← e', neL _ _ c.1.1.2]
      · cases e
    · cases e
  · split at e
    · rename_i ys q1
      split at e
      · rename_i c
        simp only [Bool.and_eq_true, decide_eq_true_eq] at c
        obtain ⟨d1, k1⟩ := dp_of _ _ hx c.1.1.1
        obtain ⟨d2, k2⟩ := loc1 hy q1 c.1.1.2
        refine ⟨_, _, d1, d2, k1, k2, by rw [depth_toD]; omega, ?_⟩
        have e' := Option.some.inj e
        rw [← e', neR _ _ c.1.1.1]
      · cases e
    · cases e
  · split at e
    · rename_i c
      simp only [Bool.and_eq_true, decide_eq_true_eq] at c
      obtain ⟨d1, k1⟩ := dp_of _ _ hx c.1.1.1
      obtain ⟨d2, k2⟩ := dp_of _ _ hy c.1.1.2
      refine ⟨_, _, d1, d2, k1, k2, by rw [depth_toD]; omega, ?_⟩
      have e' := Option.some.inj e
      rw [← e', eqv_toD _ _ c.1.1.1 c.1.1.2]
    · cases e
end
end Gu
end

section
set_option Elab.async false
set_option linter.all false
set_option maxRecDepth 100000
/-! Gu4: the rules by values. -/
namespace Gu
open PySem PySem.Spec PyProof.Rows L2

def fin1 (K : PySem.W.Frag) (Q : VK) : Val → MH → Hp → List Addr → Prop := fun v _ H' L' => ∀ z, RV K H' L' v z → Q z H'
def r2 (K : PySem.W.Frag) (W : XW) (f : Val → Val → MH → R Val) : R2 := fun x y H Q =>
  ∃ gx gy h L, HR K H L h ∧ RV K H L gx x ∧ RV K H L gy y ∧ outV K W H L (f gx gy h) (fin1 K Q)
def rN (K : PySem.W.Frag) (W : XW) (f : List Val → MH → R Val) : List V → Hp → VK → Prop := fun xs H Q =>
  ∃ gs h L, HR K H L h ∧ RVs K H L gs xs ∧ outV K W H L (f gs h) (fin1 K Q)
def rM (K : PySem.W.Frag) (W : XW) (f : Val → List Val → MH → R Val) : V → List V → Hp → VK → Prop := fun x xs H Q =>
  ∃ g gs h L, HR K H L h ∧ RV K H L g x ∧ RVs K H L gs xs ∧ outV K W H L (f g gs h) (fin1 K Q)
section
variable {K : PySem.W.Frag} {W : XW} {H H' : Hp} {L L' : List Addr} {h : MH} {Q : VK}
theorem fin_v {v : Val} (r : HR K H L h) (q : outV K W H L (.ok v h) (fin1 K Q)) {z : V} (k : RV K H L v z) : Q z H := q.here r z k
theorem fin_l {vs : List Val} {xs : List V} (r : HR K H L h) (q : outV K W H L (.ok (.loc h.length) (h ++ [.lst vs])) (fin1 K Q)) (k : RVs K H L vs xs) {p : Addr} (hp : H p = none) : Q (.ref p) (upd H p (.lst xs)) :=
  q _ _ (r.add hp k) (Ext.add hp) _ (RV.newLoc r)
theorem fin_t {vs : List Val} {xs : List V} (r : HR K H L h) (q : outV K W H L (.ok (.tup vs) h) (fin1 K Q)) (k : RVs K H L vs xs) {p : Addr} (hp : H p = none) : Q (.ref p) (upd H p (.tup xs)) :=
  q _ _ (r.new hp) (Ext.new hp) _ (RV.mk_tup (.inl (.inl upd_same)) (RVs.mono (Ext.new hp) _ _ k))
/-- a list of ours -/
theorem the_lst (r : HR K H L h) {n : Nat} {vs : List Val} {x : V} (hx : RV K H L (.loc n) x) (e : h[n]? = some (.lst vs)) : ∃ a xs, x = .ref a ∧ L[n]? = some a ∧ H a = some (.lst xs) ∧ RVs K H L vs xs := by
  obtain ⟨a, h1, rfl⟩ := hx.loc_of
  obtain ⟨xs, h2, h3⟩ := r.at e h1
  exact ⟨a, xs, rfl, h1, h2, h3⟩
theorem the_seq (r : HR K H L h) {n : Nat} {vs : List Val} {x : V} (hx : RV K H L (.loc n) x) (e : seqL h n = some vs) : ∃ a xs, x = .ref a ∧ L[n]? = some a ∧ SqL K H a xs ∧ RVs K H L vs xs := by
  obtain ⟨a, h1, rfl⟩ := hx.loc_of
  obtain ⟨xs, h2, h3⟩ := r.seq e h1
  exact ⟨a, xs, rfl, h1, h2, h3⟩
end
section
variable {X : Cx} {W : XW}
theorem opr_bin (o : Operator) : OpR X (binaryOp o) (r2 X.K W (binV o)) := by
  intro pins s σ H x y v u Q I rx ry hh
  obtain ⟨gx, gy, h, L, r, hx, hy, q⟩ := hh
  unfold binV at q
  split at q
  · obtain rfl := hx.int_of; obtain rfl := hy.int_of
    exact op_add pins s σ H _ _ v u Q I rx ry ⟨_, _, rfl, rfl, fin_v r q .mk_int⟩
  · obtain rfl := hx.int_of; obtain rfl := hy.int_of
    exact op_sub pins s σ H _ _ v u Q I rx ry ⟨_, _, rfl, rfl, fin_v r q .mk_int⟩
  · obtain rfl := hx.int_of; obtain rfl := hy.int_of
    split at q
    · rename_i c
      exact op_mulW pins s σ H _ _ v u Q I rx ry ⟨_, _, rfl, rfl, c, fin_v r q .mk_int⟩
    · exact q.elim
  · obtain rfl := hx.int_of; obtain rfl := hy.int_of
    split at q
    · rename_i c
      exact op_fdivW pins s σ H _ _ v u Q I rx ry ⟨_, _, rfl, rfl, c, fin_v r q .mk_int⟩
    · exact q.elim
  · obtain rfl := hx.int_of; obtain rfl := hy.int_of
    split at q
    · rename_i c
      exact op_mod pins s σ H _ _ v u Q I rx ry ⟨_, _, rfl, rfl, c, fin_v r q .mk_int⟩
    · exact q.elim
  · obtain rfl := hx.int_of; obtain rfl := hy.int_of
    split at q
    · rename_i c
      exact op_pow pins s σ H _ _ v u Q I rx ry ⟨_, _, rfl, rfl, ⟨c.1, by have := c.2.1; omega, c.2.2⟩, fin_v r q .mk_int⟩
    · exact q.elim
  · obtain ⟨rfl, k1⟩ := hx.str_of; obtain ⟨rfl, k2⟩ := hy.str_of
    split at q
    · rename_i c
      refine op_add_str pins s σ H _ _ v u Q I rx ry ⟨_, _, rfl, rfl, by rw [toS_len, toS_len]; exact c, ?_⟩
      rw [toS_append]
      exact fin_v r q (.mk_str (k1.app k2 c))
    · exact q.elim
  · obtain ⟨a, xs, rfl, ha, k1⟩ := hx.tup_of; obtain ⟨b, ys, rfl, hb, k2⟩ := hy.tup_of
    split at q
    · rename_i c
      refine op_catA pins s σ H _ _ v u Q I rx ry ⟨a, b, xs, ys, rfl, rfl, ha, hb, by rw [← k1.length, ← k2.length]; exact c, fun e => ?_, fun _ e => ?_, fun _ _ p hp => ?_⟩
      · subst e
        have e0 := List.eq_nil_of_length_eq_zero k1.length
        subst e0
        exact fin_v r q (.mk_tup hb k2)
      · subst e
        have e0 := List.eq_nil_of_length_eq_zero k2.length
        subst e0
        rw [List.append_nil] at q
        exact fin_v r q (.mk_tup ha k1)
      · exact fin_t r q (k1.append k2) hp
    · exact q.elim
  · split at q
    · rename_i e1 e2
      obtain ⟨a, xs, rfl, ea, ha, k1⟩ := the_lst r hx e1
      obtain ⟨b, ys, rfl, eb, hb, k2⟩ := the_lst r hy e2
      split at q
      · rename_i c
        exact op_cat pins s σ H _ _ v u Q I rx ry ⟨a, b, xs, ys, rfl, rfl, ha, hb, by rw [← k1.length, ← k2.length]; exact c, fun p hp => fin_l r q (k1.append k2) hp⟩
      · exact q.elim
    · exact q.elim
  · exact q.elim
theorem opr_eq (hu : X.A.units + 164 < cLine) {g : Bool → Bool} {op : CmpOp} (ho : (op = .Eq ∧ g = id) ∨ (op = .NotEq ∧ g = not)) : OpR X (compareOp op) (r2 X.K W fun x y h => R.ofO ((eqV? h x y).map fun b => .bl (g b)) h) := by
  intro pins s σ H x y v u Q I rx ry hh
  obtain ⟨gx, gy, h, L, r, hx, hy, q⟩ := hh
  have q : outV X.K W H L (R.ofO (Option.map (fun b => Val.bl (g b)) (eqV? h gx gy)) h) (fin1 X.K Q) := q
  cases e : eqV? h gx gy with
  | none => rw [e] at q; exact q.elim
  | some b =>
    rw [e] at q
    obtain ⟨d, d2, k1, k2, c1, c2, dd, rfl⟩ := eqV_of r hx hy e
    obtain ⟨as, r1⟩ := Dp.reads I d x v k1 rx
    obtain ⟨bs, r2⟩ := Dp.reads I d2 y u k2 ry
    have hm : X.A.units + min d.depth d2.depth < cLine := by
      have := Nat.min_le_left d.depth d2.depth
      omega
    have q' : Q (.bl (g (PyData.eqv d d2))) H := fin_v r q .mk_bl
    rcases ho with ⟨rfl, rfl⟩ | ⟨rfl, rfl⟩
    · exact SeqAt.compareEq_reads r1 r2 c1 c2 hm ⟨.bl _, H, I, rfl, q'⟩
    · exact SeqAt.compareNe_reads r1 r2 c1 c2 hm ⟨.bl _, H, I, rfl, q'⟩
/-- the values of atoms -/
theorem atom_eq {K : PySem.W.Frag} {H : Hp} {L : List Addr} {a b : Val} {x y : V} (ha : RV K H L a x) (hb : RV K H L b y) (fa : a.atom = true) (fb : b.atom = true) : eqV x y = Val.eqb a b ∧ flatV x = true := by
  cases a with
  | loc _ => cases fa
  | fro _ => cases fa
  | tup _ => cases fa
  | non =>
    obtain rfl := ha.non_of
    cases b with
    | loc _ => cases fb
    | fro _ => cases fb
    | tup _ => cases fb
    | non => obtain rfl := hb.non_of; unfold Val.eqb; exact ⟨rfl, rfl⟩
    | bl _ => obtain rfl := hb.bl_of; unfold Val.eqb; exact ⟨rfl, rfl⟩
    | int _ => obtain rfl := hb.int_of; unfold Val.eqb; exact ⟨rfl, rfl⟩
    | str _ => obtain ⟨rfl, _⟩ := hb.str_of; unfold Val.eqb; exact ⟨rfl, rfl⟩
  | bl _ =>
    obtain rfl := ha.bl_of
    cases b with
    | loc _ => cases fb
    | fro _ => cases fb
    | tup _ => cases fb
    | non => obtain rfl := hb.non_of; unfold Val.eqb; exact ⟨rfl, rfl⟩
    | bl _ => obtain rfl := hb.bl_of; unfold Val.eqb; exact ⟨rfl, rfl⟩
    | int _ => obtain rfl := hb.int_of; unfold Val.eqb; exact ⟨rfl, rfl⟩
    | str _ => obtain ⟨rfl, _⟩ := hb.str_of; unfold Val.eqb; exact ⟨rfl, rfl⟩
  | int _ =>
    obtain rfl := ha.int_of
    cases b with
    | loc _ => cases fb
    | fro _ => cases fb
    | tup _ => cases fb
    | non => obtain rfl := hb.non_of; unfold Val.eqb; exact ⟨rfl, rfl⟩
    | bl _ => obtain rfl := hb.bl_of; unfold Val.eqb; exact ⟨rfl, rfl⟩
    | int _ => obtain rfl := hb.int_of; unfold Val.eqb; exact ⟨rfl, rfl⟩
    | str _ => obtain ⟨rfl, _⟩ := hb.str_of; unfold Val.eqb; exact ⟨rfl, rfl⟩
  | str _ =>
    obtain ⟨rfl, _⟩ := ha.str_of
    cases b with
    | loc _ => cases fb
    | fro _ => cases fb
    | tup _ => cases fb
    | non => obtain rfl := hb.non_of; unfold Val.eqb; exact ⟨rfl, rfl⟩
    | bl _ => obtain rfl := hb.bl_of; unfold Val.eqb; exact ⟨rfl, rfl⟩
    | int _ => obtain rfl := hb.int_of; unfold Val.eqb; exact ⟨rfl, rfl⟩
    | str _ => obtain ⟨rfl, _⟩ := hb.str_of; unfold Val.eqb; exact ⟨str_beq _ _, rfl⟩
theorem atoms_in {K : PySem.W.Frag} {H : Hp} {L : List Addr} {b : Val} {y : V} (hb : RV K H L b y) (fb : b.atom = true) : ∀ {vs : List Val} {xs : List V}, RVs K H L vs xs → vs.all Val.atom = true →
    xs.all flatV = true ∧ inV y xs = vs.any fun z => Val.eqb z b
  | [], xs, h, _ => by rw [h.inv0]; exact ⟨rfl, rfl⟩
  | v :: vs, xs, h, f => by
    obtain ⟨x, r, rfl, h1, h2⟩ := h.inv
    rw [List.all_cons, Bool.and_eq_true] at f
    obtain ⟨e1, e2⟩ := atom_eq h1 hb f.1 fb
    obtain ⟨q1, q2⟩ := atoms_in hb fb h2 f.2
    refine ⟨by rw [List.all_cons, e2, q1]; rfl, ?_⟩
    unfold inV at q2 ⊢
    rw [List.any_cons, List.any_cons, q2, e1]
theorem opr_in {g : Bool → Bool} {op : CmpOp} (ho : (op = .In ∧ g = id) ∨ (op = .NotIn ∧ g = not)) : OpR X (compareOp op) (r2 X.K W fun x y h => R.ofO ((inV? h x y).map fun b => .bl (g b)) h) := by
  intro pins s σ H x y v u Q I rx ry hh
  obtain ⟨gx, gy, h, L, r, hx, hy, q⟩ := hh
  have sq : ∀ {p : Addr} {xs : List V} {vs : List Val}, y = .ref p → (SqL X.K H p xs ∨ SqT X.K H p xs) → RVs X.K H L vs xs → gx.atom = true → vs.all Val.atom = true → Q (.bl (g (vs.any fun z => Val.eqb z gx))) H →
      wpAny (model X.prog X.w) X.A (compareOp op v u) (EP X pins σ Q) X.xe s := fun {p xs vs} ey hp hv fa fs q' => by
    obtain ⟨e1, e2⟩ := atoms_in hx fa hv fs
    have f1 := (atom_eq hx hx fa fa).2
    rw [← e2] at q'
    rcases ho with ⟨rfl, rfl⟩ | ⟨rfl, rfl⟩
    · exact op_in_seq pins s σ H x y v u Q I rx ry ⟨p, xs, ey, hp, f1, e1, q'⟩
    · exact op_notIn_seq pins s σ H x y v u Q I rx ry ⟨p, xs, ey, hp, f1, e1, q'⟩
  have q : outV X.K W H L (R.ofO (Option.map (fun b => Val.bl (g b)) (inV? h gx gy)) h) (fin1 X.K Q) := q
  cases e : inV? h gx gy with
  | none => rw [e] at q; exact q.elim
  | some b =>
    rw [e] at q
    have q' : Q (.bl (g b)) H := fin_v r q .mk_bl
    unfold inV? at e
    split at e
    · obtain ⟨p, xs, ey, hp, hv⟩ := hy.tup_of
      split at e
      · rename_i c
        rw [Bool.and_eq_true] at c
        have e' := Option.some.inj e
        rw [← e'] at q'
        exact sq ey (.inr hp) hv c.1 c.2 q'
      · cases e
    · split at e
      · rename_i eq
        obtain ⟨p, xs, ey, _, hp, hv⟩ := the_seq r hy eq
        split at e
        · rename_i c
          rw [Bool.and_eq_true] at c
          have e' := Option.some.inj e
          rw [← e'] at q'
          exact sq ey (.inl hp) hv c.1 c.2 q'
        · cases e
      · cases e
    · split at e
      · rename_i s' _ c
        obtain ⟨rfl, _⟩ := hx.str_of
        obtain ⟨rfl, _⟩ := hy.str_of
        have e' := Option.some.inj e
        have ec : s'.contains c = decide (c ∈ (toS s').cps.toList) := by rw [toS_cps]; simp
        rw [← e', ec] at q'
        rcases ho with ⟨rfl, rfl⟩ | ⟨rfl, rfl⟩
        · exact op_in_sign pins s σ H _ _ v u Q I rx ry ⟨c, _, rfl, rfl, q'⟩
        · exact op_notIn_sign pins s σ H _ _ v u Q I rx ry ⟨c, _, rfl, rfl, q'⟩
      · cases e
    · cases e
theorem opr_cmp (hu : X.A.units + 164 < cLine) (o : CmpOp) : OpR X (compareOp o) (r2 X.K W fun x y h => R.ofO (cmpV o h x y) h) := by
  cases o with
  | Eq => exact opr_eq hu (g := id) (.inl ⟨rfl, rfl⟩)
  | NotEq => exact opr_eq hu (g := not) (.inr ⟨rfl, rfl⟩)
  | In => exact opr_in (g := id) (.inl ⟨rfl, rfl⟩)
  | NotIn => exact opr_in (g := not) (.inr ⟨rfl, rfl⟩)
  | Lt =>
    intro pins s σ H x y v u Q I rx ry hh
    obtain ⟨gx, gy, h, L, r, hx, hy, q⟩ := hh
    unfold cmpV at q
    simp only at q
    split at q
    · obtain rfl := hx.int_of; obtain rfl := hy.int_of
      exact op_lt pins s σ H _ _ v u Q I rx ry ⟨_, _, rfl, rfl, fin_v r q .mk_bl⟩
    · exact q.elim
  | LtE =>
    intro pins s σ H x y v u Q I rx ry hh
    obtain ⟨gx, gy, h, L, r, hx, hy, q⟩ := hh
    unfold cmpV at q
    simp only at q
    split at q
    · obtain rfl := hx.int_of; obtain rfl := hy.int_of
      exact op_le pins s σ H _ _ v u Q I rx ry ⟨_, _, rfl, rfl, fin_v r q .mk_bl⟩
    · exact q.elim
  | Gt =>
    intro pins s σ H x y v u Q I rx ry hh
    obtain ⟨gx, gy, h, L, r, hx, hy, q⟩ := hh
    unfold cmpV at q
    simp only at q
    split at q
    · obtain rfl := hx.int_of; obtain rfl := hy.int_of
      exact op_gt pins s σ H _ _ v u Q I rx ry ⟨_, _, rfl, rfl, fin_v r q .mk_bl⟩
    · exact q.elim
  | GtE =>
    intro pins s σ H x y v u Q I rx ry hh
    obtain ⟨gx, gy, h, L, r, hx, hy, q⟩ := hh
    unfold cmpV at q
    simp only at q
    split at q
    · obtain rfl := hx.int_of; obtain rfl := hy.int_of
      exact op_ge pins s σ H _ _ v u Q I rx ry ⟨_, _, rfl, rfl, fin_v r q .mk_bl⟩
    · exact q.elim
  | Is =>
    intro pins s σ H x y v u Q I rx ry hh
    obtain ⟨gx, gy, h, L, r, hx, hy, q⟩ := hh
    unfold cmpV at q
    simp only at q
    split at q
    · obtain rfl := hy.non_of
      refine op_isN pins s σ H _ _ v u Q I rx ry ⟨rfl, ?_⟩
      refine fin_v r q ?_
      have e : decide (x = V.non) = gx.isNon := by
        cases gx with
        | non => obtain rfl := hx.non_of; rfl
        | bl _ => obtain rfl := hx.bl_of; rfl
        | int _ => obtain rfl := hx.int_of; rfl
        | str _ => obtain ⟨rfl, _⟩ := hx.str_of; rfl
        | tup _ => obtain ⟨_, _, rfl, _⟩ := hx.tup_of; rfl
        | loc _ => obtain ⟨_, _, rfl⟩ := hx.loc_of; rfl
        | fro _ => obtain ⟨_, _, rfl, _⟩ := hx.fro_of; rfl
      rw [e]
      exact .mk_bl
    · exact q.elim
  | IsNot =>
    intro pins s σ H x y v u Q I rx ry hh
    obtain ⟨gx, gy, h, L, r, hx, hy, q⟩ := hh
    unfold cmpV at q
    simp only at q
    split at q
    · obtain rfl := hy.non_of
      refine op_notN pins s σ H _ _ v u Q I rx ry ⟨rfl, ?_⟩
      refine fin_v r q ?_
      have e : (!decide (x = V.non)) = !gx.isNon := by
        cases gx with
        | non => obtain rfl := hx.non_of; rfl
        | bl _ => obtain rfl := hx.bl_of; rfl
        | int _ => obtain rfl := hx.int_of; rfl
        | str _ => obtain ⟨rfl, _⟩ := hx.str_of; rfl
        | tup _ => obtain ⟨_, _, rfl, _⟩ := hx.tup_of; rfl
        | loc _ => obtain ⟨_, _, rfl⟩ := hx.loc_of; rfl
        | fro _ => obtain ⟨_, _, rfl, _⟩ := hx.fro_of; rfl
      rw [e]
      exact .mk_bl
    · exact q.elim
end
end Gu
end

section
set_option Elab.async false
set_option linter.all false
set_option maxRecDepth 100000
/-! Gu5: the rules by values, further. -/
namespace Gu
open PySem PySem.Spec PyProof.Rows L2
def rSl (K : PySem.W.Frag) (W : XW) : V → Option Int → Option Int → Hp → VK → Prop := fun x lo hi H Q =>
  ∃ gx h L, HR K H L h ∧ RV K H L gx x ∧ outV K W H L (slcV h gx lo hi) (fin1 K Q)
def rSet (K : PySem.W.Frag) (W : XW) : TSet := fun o i v H Q =>
  ∃ go gi gv h L, HR K H L h ∧ RV K H L go o ∧ RV K H L gi i ∧ RV K H L gv v ∧ outV K W H L (setV go gi gv h) fun _ h' H' L' => Q H'
theorem strInt_eq (i : Int) : (Str.ofString (toString i)) = toS (strInt i) := by
  rw [Str.ofString_eq_toList]
  rfl
theorem strInt_ok (i : Int) : ∀ c ∈ strInt i, c < 1114112 := by
  intro c hc
  unfold strInt at hc
  obtain ⟨d, _, rfl⟩ := List.mem_map.mp hc
  have := d.valid
  rcases this with h | ⟨_, h⟩
  · exact Nat.lt_trans h (by decide)
  · exact h
theorem cutL_all {α : Type} {vs : List α} {lo hi : Option Int} (e1 : HT.sIx vs.length 0 lo = 0) (e2 : HT.sIx vs.length vs.length hi = vs.length) : cutL vs lo hi = vs := by
  unfold cutL
  rw [e1, e2, List.drop_zero, Nat.sub_zero, List.take_length]
section
variable {X : Cx} {W : XW}
theorem ixr_idx : IxR X (r2 X.K W fun x y h => R.ofO (idxV h x y) h) := by
  intro value slice pins s σ H x y v u Q I rx ry hh hs
  obtain ⟨gx, gy, h, L, r, hx, hy, q⟩ := hh
  have q : outV X.K W H L (R.ofO (idxV h gx gy) h) (fin1 X.K Q) := q
  cases e : idxV h gx gy with
  | none => rw [e] at q; exact q.elim
  | some w =>
    rw [e] at q
    have q' : ∀ {z : V}, RV X.K H L w z → Q z H := fun k => fin_v r q k
    unfold idxV at e
    split at e
    · obtain ⟨p, xs, rfl, hp, hv⟩ := hx.tup_of
      obtain rfl := hy.int_of
      obtain ⟨z, h1, h2⟩ := hv.atI e
      exact ix_seq value slice pins s σ H _ _ v u Q I rx ry (.inr (.inl ⟨p, xs, _, z, rfl, rfl, hp, h1, q' h2⟩)) hs
    · obtain ⟨p, xs, rfl, hp, hv⟩ := hx.fro_of
      obtain rfl := hy.int_of
      obtain ⟨z, h1, h2⟩ := hv.atI e
      exact ix_seq value slice pins s σ H _ _ v u Q I rx ry (.inl ⟨p, xs, _, z, rfl, rfl, hp.sq, h1, q' h2⟩) hs
    · obtain rfl := hy.int_of
      cases eq : seqL h _ with
      | none => rw [eq] at e; cases e
      | some vs =>
        rw [eq] at e
        obtain ⟨p, xs, rfl, _, hp, hv⟩ := the_seq r hx eq
        obtain ⟨z, h1, h2⟩ := hv.atI e
        exact ix_seq value slice pins s σ H _ _ v u Q I rx ry (.inl ⟨p, xs, _, z, rfl, rfl, hp, h1, q' h2⟩) hs
    · obtain ⟨rfl, hk⟩ := hx.str_of
      obtain rfl := hy.int_of
      rename_i s' i
      cases ea : atI s' i with
      | none => rw [ea] at e; cases e
      | some c =>
        rw [ea] at e
        have e' : Val.str [c] = w := Option.some.inj e
        subst e'
        refine ix_seq value slice pins s σ H _ _ v u Q I rx ry (.inr (.inr ⟨_, _, c, rfl, rfl, by rw [toS_len]; exact hk.2, by rw [toS_cps]; exact ea, q' (.mk_str (hk.one (at_mem ea)))⟩)) hs
    · cases e
theorem slr_slc : SlR X (rSl X.K W) := by
  intro pins s σ H x v vl vu lo hi sl Q I rx hs pl pu hh
  obtain ⟨gx, h, L, r, hx, q⟩ := hh
  unfold slcV at q
  split at q
  · obtain ⟨p, xs, rfl, hp, hv⟩ := hx.tup_of
    refine sl_tupA pins s σ H _ v vl vu lo hi sl Q I rx hs pl pu ⟨p, xs, rfl, hp, fun ⟨e1, e2⟩ => ?_, fun _ p' hp' => fin_t r q (hv.cut lo hi) hp'⟩
    rw [← hv.length] at e1 e2
    rw [cutL_all e1 e2] at q
    exact fin_v r q (.mk_tup hp hv)
  · obtain ⟨p, xs, rfl, hp, hv⟩ := hx.fro_of
    exact sl_list pins s σ H _ v vl vu lo hi sl Q I rx hs pl pu ⟨p, xs, rfl, hp.sq, fun p' hp' => fin_l r q (hv.cut lo hi) hp'⟩
  · split at q
    · rename_i eq
      obtain ⟨p, xs, rfl, _, hp, hv⟩ := the_seq r hx eq
      exact sl_list pins s σ H _ v vl vu lo hi sl Q I rx hs pl pu ⟨p, xs, rfl, hp, fun p' hp' => fin_l r q (hv.cut lo hi) hp'⟩
    · exact q.elim
  · obtain ⟨rfl, hk⟩ := hx.str_of
    refine sl_str pins s σ H _ v vl vu lo hi sl Q I rx hs pl pu ⟨_, rfl, by rw [toS_len]; exact hk.2, ?_⟩
    have e : ∀ s' : List Nat, cutS (toS s') lo hi = toS (cutL s' lo hi) := fun s' => by
      unfold cutS cutL toS
      simp [Str.length]
    rw [e]
    exact fin_v r q (.mk_str (hk.cut lo hi))
  · exact q.elim
theorem unr_neg : UnR X (unaryOp .USub) (fun x H Q => ∃ gx h L, HR X.K H L h ∧ RV X.K H L gx x ∧ outV X.K W H L (match gx with | .int i => .ok (.int (-i)) h | _ => .no) (fin1 X.K Q)) := by
  intro pins s σ H x v Q I rx hh
  obtain ⟨gx, h, L, r, hx, q⟩ := hh
  split at q
  · obtain rfl := hx.int_of
    exact un_neg pins s σ H _ v Q I rx ⟨_, rfl, fin_v r q .mk_int⟩
  · exact q.elim
theorem one_of {K : PySem.W.Frag} {H : Hp} {L : List Addr} {a : Val} {xs : List V} (h : RVs K H L [a] xs) : ∃ x, xs = [x] ∧ RV K H L a x := by
  obtain ⟨x, r, rfl, h1, h2⟩ := h.inv
  rw [h2.inv0]
  exact ⟨x, rfl, h1⟩
def bltVal : BI → Value
  | .len => .builtin "len"
  | .int => .type "int"
  | .str => .type "str"
  | .list => .type "list"
  | .tuple => .type "tuple"
theorem callr_blt (b : BI) : CallR X (bltVal b) (rN X.K W (biV b)) := by
  intro pins s σ H xs us Q I rs hh
  obtain ⟨gs, h, L, r, hx, q⟩ := hh
  unfold biV at q
  split at q
  · obtain ⟨x, rfl, h1⟩ := one_of hx
    obtain ⟨rfl, hk⟩ := h1.str_of
    refine call_len_str pins s σ H _ us Q I rs ⟨_, rfl, by rw [toS_len]; exact hk.2, ?_⟩
    rw [toS_len]
    exact fin_v r q .mk_int
  · obtain ⟨x, rfl, h1⟩ := one_of hx
    obtain ⟨p, ys, rfl, hp, hv⟩ := h1.tup_of
    refine call_len_seq pins s σ H _ us Q I rs ⟨p, ys, rfl, .inr hp, ?_⟩
    rw [← hv.length]
    exact fin_v r q .mk_int
  · obtain ⟨x, rfl, h1⟩ := one_of hx
    obtain ⟨p, ys, rfl, hp, hv⟩ := h1.fro_of
    refine call_len_seq pins s σ H _ us Q I rs ⟨p, ys, rfl, .inl hp.sq, ?_⟩
    rw [← hv.length]
    exact fin_v r q .mk_int
  · obtain ⟨x, rfl, h1⟩ := one_of hx
    split at q
    · rename_i eq
      obtain ⟨p, ys, rfl, _, hp, hv⟩ := the_seq r h1 eq
      refine call_len_seq pins s σ H _ us Q I rs ⟨p, ys, rfl, .inl hp, ?_⟩
      rw [← hv.length]
      exact fin_v r q .mk_int
    · exact q.elim
  · obtain ⟨x, rfl, h1⟩ := one_of hx
    obtain rfl := h1.int_of
    exact call_int1 pins s σ H _ us Q I rs (.inl ⟨_, rfl, fin_v r q .mk_int⟩)
  · obtain ⟨x, rfl, h1⟩ := one_of hx
    obtain rfl := h1.int_of
    split at q
    · rename_i c
      refine call_str_int pins s σ H _ us Q I rs ⟨_, rfl, c.1, ?_⟩
      rw [show (Str.ofString (toString _)) = _ from strInt_eq _]
      exact fin_v r q (.mk_str ⟨strInt_ok _, c.2⟩)
    · exact q.elim
  · obtain ⟨x, rfl, h1⟩ := one_of hx
    obtain rfl := h1.bl_of
    exact call_int1 pins s σ H _ us Q I rs (.inr ⟨_, rfl, fin_v r q .mk_int⟩)
  · obtain ⟨x, rfl, h1⟩ := one_of hx
    split at q
    · rename_i eq
      obtain ⟨p, ys, rfl, _, hp, hv⟩ := the_seq r h1 eq
      exact call_list_of pins s σ H _ us Q I rs ⟨p, ys, rfl, .inl hp, fun l hl => fin_l r q hv hl⟩
    · exact q.elim
  · obtain ⟨x, rfl, h1⟩ := one_of hx
    obtain ⟨p, ys, rfl, hp, hv⟩ := h1.tup_of
    exact call_list_of pins s σ H _ us Q I rs ⟨p, ys, rfl, .inr hp, fun l hl => fin_l r q hv hl⟩
  · obtain ⟨x, rfl, h1⟩ := one_of hx
    obtain ⟨p, ys, rfl, hp, hv⟩ := h1.fro_of
    exact call_list_of pins s σ H _ us Q I rs ⟨p, ys, rfl, .inl hp.sq, fun l hl => fin_l r q hv hl⟩
  · obtain ⟨x, rfl, h1⟩ := one_of hx
    split at q
    · rename_i eq
      obtain ⟨p, ys, rfl, _, hp, hv⟩ := the_seq r h1 eq
      exact call_tuple_of pins s σ H _ us Q I rs ⟨p, ys, rfl, .inl ⟨hp, fun l hl => fin_t r q hv hl⟩⟩
    · exact q.elim
  · obtain ⟨x, rfl, h1⟩ := one_of hx
    obtain ⟨p, ys, rfl, hp, hv⟩ := h1.tup_of
    exact call_tuple_of pins s σ H _ us Q I rs ⟨p, ys, rfl, .inr ⟨hp, fin_v r q (.mk_tup hp hv)⟩⟩
  · exact q.elim
/-! ### isinstance -/
def tkName : TK → String
  | .int => "int"
  | .bool => "bool"
  | .str => "str"
  | .list => "list"
  | .tuple => "tuple"
theorem isi_of {K : PySem.W.Frag} {H : Hp} {L : List Addr} {h : MH} (r : HR K H L h) {v : Val} {x : V} {b : Bool} (t : TK) (hv : RV K H L v x) (e : isiV t h v = some b) : ∃ a, TyX K H x (.type a) ∧ kitB a (tkName t) = some b := by
  cases v with
  | non => obtain rfl := hv.non_of; cases e; exact ⟨_, .base .non, by cases t <;> decide +kernel⟩
  | bl _ => obtain rfl := hv.bl_of; cases e; exact ⟨_, .base (.bl _), by cases t <;> decide +kernel⟩
  | int _ => obtain rfl := hv.int_of; cases e; exact ⟨_, .base (.int _), by cases t <;> decide +kernel⟩
  | str _ => obtain ⟨rfl, _⟩ := hv.str_of; cases e; exact ⟨_, .base (.str _), by cases t <;> decide +kernel⟩
  | tup vs =>
    obtain ⟨p, xs, rfl, hp, _⟩ := hv.tup_of
    cases e
    refine ⟨"tuple", ?_, by cases t <;> decide +kernel⟩
    rcases hp with (hp | ⟨o, hp⟩) | ⟨o, its, n, hk, hc, _⟩
    · exact .base (.tup hp)
    · exact .fTuple hp
    · exact .kTuple hk hc
  | fro vs =>
    obtain ⟨p, xs, rfl, hp, _⟩ := hv.fro_of
    cases e
    refine ⟨"list", ?_, by cases t <;> decide +kernel⟩
    rcases hp with ⟨o, hp⟩ | ⟨o, its, n, hk, hc, _⟩
    · exact .base (.frz hp)
    · exact .kList hk hc
  | loc n =>
    have e : (match h[n]? with | some (.lst _) => some (decide (t = .list)) | _ => none) = some b := e
    cases eq : h[n]? with
    | none => rw [eq] at e; cases e
    | some o =>
      rw [eq] at e
      cases o with
      | lst vs =>
        obtain ⟨p, xs, rfl, _, hp, _⟩ := the_lst r hv eq
        cases e
        exact ⟨"list", .base (.lst hp), by cases t <;> decide +kernel⟩
/-! ### methods -/
def mtId : MI → String
  | .append => "list.append"
  | .pop => "list.pop"
  | .join => "str.join"
  | .split => "str.split"
  | .extend => "list.extend"
theorem set_same {h : MH} {n : Nat} {vs : List Val} : (h.set n (.lst vs)).length = h.length := List.length_set
theorem fin_w {K : PySem.W.Frag} {H : Hp} {L : List Addr} {h : MH} {Q : VK} {n : Nat} {p : Addr} {zs xs : List V} {vs : List Val} {w : Val} {z : V} (r : HR K H L h) (q : outV K W H L (.ok w (h.set n (.lst vs))) (fin1 K Q))
    (ep : L[n]? = some p) (hp : H p = some (.lst zs)) (k : RVs K H L vs xs) (kw : RV K H L w z) : Q z (upd H p (.lst xs)) :=
  q _ _ (r.write ep hp k) (Ext.write hp) z (RV.mono (Ext.write hp) _ _ kw)
theorem strs_of {K : PySem.W.Frag} {H : Hp} {L : List Addr} : ∀ {vs : List Val} {xs : List V} {ss : List (List Nat)}, RVs K H L vs xs → strs? vs = some ss → xs = (ss.map toS).map V.str ∧ ∀ s ∈ ss, okS s
  | [], xs, ss, h, e => by
    cases e
    rw [h.inv0]
    exact ⟨rfl, fun s hs => nomatch hs⟩
  | v :: vs, xs, ss, h, e => by
    obtain ⟨x, t, rfl, h1, h2⟩ := h.inv
    cases v with
    | str s =>
      cases e' : strs? vs with
      | none => simp [strs?, e'] at e
      | some ss' =>
        simp [strs?, e'] at e
        subst e
        obtain ⟨q1, q2⟩ := strs_of h2 e'
        obtain ⟨rfl, k⟩ := h1.str_of
        refine ⟨by rw [q1]; rfl, fun s hs => ?_⟩
        rcases List.mem_cons.mp hs with rfl | hs
        · exact k
        · exact q2 s hs
    | _ => simp [strs?] at e
theorem joinS_eq1 (sep : List Nat) : ∀ ss : List (List Nat), (Str.join (toS sep) (ss.map toS)) = toS (joinS sep ss)
  | [] => rfl
  | [_] => rfl
  | x :: y :: r => by
    show toS x ++ toS sep ++ Str.join (toS sep) ((y :: r).map toS) = toS (x ++ sep ++ joinS sep (y :: r))
    rw [joinS_eq1 sep (y :: r), toS_append, toS_append]
theorem joinS_eq (sep : List Nat) (ss : List (List Nat)) : (Txt.join (toS sep) (ss.map toS)) = toS (joinS sep ss) := (TL.join_eq _ _).trans (joinS_eq1 sep ss)
theorem joinS_ok {sep : List Nat} (hs : okS sep) : ∀ {ss : List (List Nat)}, (∀ s ∈ ss, okS s) → (∀ c ∈ joinS sep ss, c < 1114112) ∧ (joinS sep ss).length ≤ (ss.map (·.length)).sum + ss.length * sep.length
  | [], _ => ⟨fun c hc => (nomatch hc), Nat.zero_le _⟩
  | [x], h => ⟨(h x (by simp)).1, by simp [joinS]⟩
  | x :: y :: r, h => by
    obtain ⟨q1, q2⟩ := joinS_ok hs (ss := y :: r) fun s hs => h s (List.mem_cons_of_mem _ hs)
    refine ⟨fun c hc => ?_, ?_⟩
    · have hc : c ∈ x ++ sep ++ joinS sep (y :: r) := hc
      rcases List.mem_append.mp hc with hc | hc
      · rcases List.mem_append.mp hc with hc | hc
        · exact (h x (by simp)).1 c hc
        · exact hs.1 c hc
      · exact q1 c hc
    · show (x ++ sep ++ joinS sep (y :: r)).length ≤ _
      rw [List.length_append, List.length_append]
      rw [List.map_cons, List.sum_cons, List.length_cons (a := x)]
      have e : ((y :: r).length + 1) * sep.length = (y :: r).length * sep.length + sep.length := by rw [Nat.add_mul, Nat.one_mul]
      rw [e]
      omega
theorem spl_one (c : Nat) : ∀ (s acc : List Nat), TL.spl [c] 0 acc s = splitC c acc s
  | [], acc => rfl
  | d :: r, acc => by
    by_cases hd : d = c
    · subst hd
      rw [TL.spl_hit (by unfold TL.pre; simp)]
      show acc :: TL.spl [d] 0 [] r = splitC d acc (d :: r)
      rw [spl_one d r [], splitC, if_pos rfl]
    · rw [TL.spl_miss (by unfold TL.pre; simp [hd]), spl_one c r]
      rw [splitC, if_neg hd]
theorem split_eq {c : Nat} (s : List Nat) (hc : c < 256) : Txt.split (toS s) (toS [c]) = (splitC c [] s).map toS := by
  have hk : ¬ Builtin.Str.strKind (toS s) < Builtin.Str.strKind (toS [c]) := by
    have e : Builtin.Str.strKind (toS [c]) = 1 := by
      unfold Builtin.Str.strKind toS
      simp [hc]
    rw [e]
    unfold Builtin.Str.strKind
    split
    · decide
    · split <;> decide
  have e := TL.split_spl (toS s) (toS [c]) (by unfold TL.tl toS; simp) hk
  have e2 : (Txt.split (toS s) (toS [c])).map TL.tl = splitC c [] s := by
    rw [e, ← spl_one c s []]
    unfold TL.tl
    rw [toS_cps, toS_cps]
  rw [← e2, List.map_map]
  have : (toS ∘ TL.tl) = id := by
    funext x
    unfold TL.tl toS
    simp
  rw [this, List.map_id]
theorem splitC_ok (c : Nat) : ∀ (s acc : List Nat), (∀ d ∈ acc, d < 1114112) → (∀ d ∈ s, d < 1114112) → ∀ t ∈ splitC c acc s, (∀ d ∈ t, d < 1114112) ∧ t.length ≤ acc.length + s.length
  | [], acc, ha, _, t, ht => by
    have e : t = acc := by simpa [splitC] using ht
    subst e
    exact ⟨ha, Nat.le_add_right _ _⟩
  | d :: r, acc, ha, hs, t, ht => by
    rw [splitC] at ht
    split at ht
    · rcases List.mem_cons.mp ht with rfl | ht
      · exact ⟨ha, Nat.le_add_right _ _⟩
      · obtain ⟨q1, q2⟩ := splitC_ok c r [] (fun _ h => nomatch h) (fun e he => hs e (List.mem_cons_of_mem _ he)) t ht
        exact ⟨q1, by simp only [List.length_cons, List.length_nil] at *; omega⟩
    · obtain ⟨q1, q2⟩ := splitC_ok c r (acc ++ [d]) (fun e he => by
        rcases List.mem_append.mp he with he | he
        · exact ha e he
        · have e2 : e = d := by simpa using he
          rw [e2]; exact hs d (by simp)) (fun e he => hs e (List.mem_cons_of_mem _ he)) t ht
      exact ⟨q1, by simp only [List.length_cons, List.length_append, List.length_nil] at *; omega⟩
theorem strs_rv {K : PySem.W.Frag} {H : Hp} {L : List Addr} : ∀ {ss : List (List Nat)}, (∀ s ∈ ss, okS s) → RVs K H L (ss.map Val.str) ((ss.map toS).map V.str)
  | [], _ => RVs.nil
  | s :: r, h => RVs.cons (.mk_str (h s (by simp))) (strs_rv fun t ht => h t (List.mem_cons_of_mem _ ht))
theorem mtr_mt (m : MI) : MtR X (mtId m) (rM X.K W (mtV m)) := by
  intro pins s σ H x xs v us Q I rx rs hh
  obtain ⟨g, gs, h, L, r, hx, hs, q⟩ := hh
  unfold mtV at q
  split at q
  · obtain ⟨z, rfl, hz⟩ := one_of hs
    split at q
    · rename_i eq
      obtain ⟨p, ys, rfl, ep, hp, hv⟩ := the_lst r hx eq
      split at q
      · rename_i c
        exact mt_append pins s σ H _ _ v us Q I rx rs ⟨p, ys, z, rfl, rfl, hp, by rw [← hv.length]; exact c, fin_w r q ep hp (hv.append (RVs.cons hz RVs.nil)) .mk_non⟩
      · exact q.elim
    · exact q.elim
  · obtain rfl := hs.inv0
    split at q
    · rename_i vs eq
      obtain ⟨p, ys, rfl, ep, hp, hv⟩ := the_lst r hx eq
      split at q
      · rename_i w ew
        rw [List.getLast?_eq_getElem?] at ew
        obtain ⟨z, ez, hz⟩ := hv.get ew
        exact mt_pop pins s σ H _ _ v us Q I rx rs ⟨p, ys, z, rfl, rfl, hp, by rw [← hv.length]; exact ez, fin_w r q ep hp hv.dropLast hz⟩
      · exact q.elim
    · exact q.elim
  · obtain ⟨z, rfl, hz⟩ := one_of hs
    split at q
    · rename_i e1 e2
      obtain ⟨p, ys, rfl, ep, hp, hv⟩ := the_lst r hx e1
      obtain ⟨p2, zs, rfl, _, hp2, hv2⟩ := the_lst r hz e2
      split at q
      · rename_i c
        exact mt_extend pins s σ H _ _ v us Q I rx rs ⟨p, p2, ys, zs, rfl, rfl, hp, hp2, by rw [← hv.length, ← hv2.length]; exact c, fin_w r q ep hp (hv.append hv2) .mk_non⟩
      · exact q.elim
    · exact q.elim
  · obtain ⟨rfl, k⟩ := hx.str_of
    obtain ⟨z, rfl, hz⟩ := one_of hs
    split at q
    · rename_i eq
      obtain ⟨p, ys, rfl, _, hp, hv⟩ := the_seq r hz eq
      split at q
      · rename_i ss es
        obtain ⟨rfl, ks⟩ := strs_of hv es
        split at q
        · rename_i c
          have hlen : ((ss.map toS).map fun x => x.length) = ss.map fun x => x.length := by
            rw [List.map_map]
            exact List.map_congr_left fun x _ => toS_len x
          refine mt_join pins s σ H _ _ v us Q I rx rs ⟨_, p, ss.map toS, rfl, rfl, .inl hp, by rw [hlen, List.length_map, toS_len]; exact c, ?_⟩
          rw [joinS_eq]
          obtain ⟨q1, q2⟩ := joinS_ok k ks
          exact fin_v r q (.mk_str ⟨q1, Nat.le_trans q2 c⟩)
        · exact q.elim
      · exact q.elim
    · exact q.elim
  · obtain ⟨rfl, k⟩ := hx.str_of
    obtain ⟨z, rfl, hz⟩ := one_of hs
    obtain ⟨rfl, k2⟩ := hz.str_of
    split at q
    · rename_i c
      refine mt_split pins s σ H _ _ v us Q I rx rs ⟨_, _, rfl, rfl, by rw [toS_len]; rfl, by rw [toS_len]; exact c.1, fun p hp => ?_⟩
      rw [split_eq _ c.2]
      refine fin_l r q (strs_rv fun t ht => ?_) hp
      obtain ⟨q1, q2⟩ := splitC_ok _ _ [] (fun _ h => nomatch h) k.1 t ht
      exact ⟨q1, Nat.le_trans q2 (by have := k.2; simp only [List.length_nil]; omega)⟩
    · exact q.elim
  · exact q.elim
theorem pset_set : PSet X (rSet X.K W) := by
  intro pins s σ H o i v ov iv u Q I ro ri rv hh
  obtain ⟨go, gi, gv, h, L, r, ho, hi, hv, q⟩ := hh
  unfold setV at q
  split at q
  · obtain rfl := hi.int_of
    split at q
    · rename_i eq
      obtain ⟨p, ys, rfl, ep, hp, hs⟩ := the_lst r ho eq
      split at q
      · rename_i j ej
        refine set_list pins s σ H _ _ v ov iv u Q I ro ri rv ⟨p, ys, _, j, rfl, rfl, hp, by rw [← hs.length]; exact ej, ?_⟩
        exact q _ _ (r.write ep hp (hs.set j hv)) (Ext.write hp)
      · exact q.elim
    · exact q.elim
  · exact q.elim
end
end Gu
end

section
set_option Elab.async false
set_option linter.all false
set_option maxRecDepth 100000
/-! Gu6: the look that a text is an expression of the small language; expressions are sound. -/
namespace Gu
open PySem PySem.Spec PyProof.Rows L2

/-- the module: its defs (name, parameters), its constants -/
structure GT where
  fns : List (Str × Nat)
  gcs : List (Str × Val)
inductive Nd where
  | e (x : Expr) | es (xs : List Expr) | o (x : Option Expr)

def noStar : Expr → Bool
  | .Starred .. => false
  | _ => true
def noSet : Expr → Bool
  | .Set .. => false
  | _ => true
def noSl : Expr → Bool
  | .Slice .. => false
  | _ => true
def noSuper : Expr → Bool
  | .Call (.Name x _) [] [] _ => !(x == ("super" : Str))
  | _ => true
def noComp : Expr → Bool
  | .ListComp .. => false
  | .SetComp .. => false
  | .DictComp .. => false
  | _ => true
def plainT : Expr → Bool
  | .UnaryOp .Not _ _ => false
  | .BoolOp .. => false
  | .IfExp .. => false
  | .Compare .. => false
  | _ => true
def visB (sc : Scope) (x : Str) : Bool := match sc.names.lookup x with
  | some .local => true
  | some .cell => true
  | some .free => true
  | _ => false
def locB (sc : Scope) (x : Str) : Bool := match sc.names.lookup x with
  | some .local => true
  | some .cell => true
  | _ => false
def glB (sc : Scope) (x : Str) : Bool := match sc.names.lookup x with
  | some .globalImplicit => true
  | _ => false
def oddN (x : Str) : Bool := (x == ("__debug__" : Str)) || (x == ("__classdict__" : Str)) || (x == ("__name__" : Str))
def fcB : Option Scope → Str → Bool
  | none, _ => true
  | some s, x => s.names.lookup x == some .cell
def stB (fo : Option Scope) (sc : Scope) (x : Str) : Bool := locB sc x && (fcB fo x || (sc.names.lookup x == some .local))
def bltName : BI → Str
  | .len => "len"
  | .int => "int"
  | .str => "str"
  | .list => "list"
  | .tuple => "tuple"
def tkStr : TK → Str
  | .int => "int"
  | .bool => "bool"
  | .str => "str"
  | .list => "list"
  | .tuple => "tuple"
def mtName : MI → Str
  | .append => "append"
  | .pop => "pop"
  | .join => "join"
  | .split => "split"
  | .extend => "extend"
def okN (N : List Str) (fo : Option Scope) (sc : Scope) (i : Nat) : Expr → Bool
  | .Name x _ => decide (N[i]? = some x) && stB fo sc x
  | _ => false
def okNs (N : List Str) (fo : Option Scope) (sc : Scope) : List Nat → List Expr → Bool
  | [], [] => true
  | i :: is, e :: es => okN N fo sc i e && okNs N fo sc is es
  | _, _ => false
def okT (N : List Str) (fo : Option Scope) (sc : Scope) : NT → Expr → Bool
  | .nm i, e => okN N fo sc i e
  | .tp is, .Tuple es _ _ => okNs N fo sc is es
  | _, _ => false
def ntIs : NT → List Nat
  | .nm i => [i]
  | .tp is => is
def ownP (N : List Str) (own : List Nat) : List (Str × Nat) := own.map fun i => (N.getD i "", i)
def okC : Val → Const → Bool
  | .non, .none => true
  | .bl b, .bool c => b == c
  | .int i, .int j => i == j
  | .str s, .str x => decide (toS s = x) && s.all (fun c => decide (c < 1114112)) && decide (s.length ≤ sizeLine)
  | _, _ => false
mutual
def Val.same : Val → Val → Bool
  | .non, .non => true
  | .bl a, .bl b => a == b
  | .int a, .int b => a == b
  | .str a, .str b => a == b
  | .tup a, .tup b => Val.sames a b
  | _, _ => false
def Val.sames : List Val → List Val → Bool
  | [], [] => true
  | a :: r, b :: s => Val.same a b && Val.sames r s
  | _, _ => false
end
mutual
theorem Val.same_eq : ∀ (a b : Val), Val.same a b = true → a = b
  | .non, .non, _ => rfl
  | .bl a, .bl b, h => by unfold Val.same at h; rw [eq_of_beq h]
  | .int a, .int b, h => by unfold Val.same at h; rw [eq_of_beq h]
  | .str a, .str b, h => by unfold Val.same at h; rw [eq_of_beq h]
  | .tup a, .tup b, h => by unfold Val.same at h; rw [Val.sames_eq a b h]
  | .loc _, _, h => by unfold Val.same at h; cases h
  | .fro _, _, h => by unfold Val.same at h; cases h
  | .non, .fro _, h => by unfold Val.same at h; cases h
  | .bl _, .fro _, h => by unfold Val.same at h; cases h
  | .int _, .fro _, h => by unfold Val.same at h; cases h
  | .str _, .fro _, h => by unfold Val.same at h; cases h
  | .tup _, .fro _, h => by unfold Val.same at h; cases h
  | .non, .bl _, h => by unfold Val.same at h; cases h
  | .non, .int _, h => by unfold Val.same at h; cases h
  | .non, .str _, h => by unfold Val.same at h; cases h
  | .non, .tup _, h => by unfold Val.same at h; cases h
  | .non, .loc _, h => by unfold Val.same at h; cases h
  | .bl _, .non, h => by unfold Val.same at h; cases h
  | .bl _, .int _, h => by unfold Val.same at h; cases h
  | .bl _, .str _, h => by unfold Val.same at h; cases h
  | .bl _, .tup _, h => by unfold Val.same at h; cases h
  | .bl _, .loc _, h => by unfold Val.same at h; cases h
  | .int _, .non, h => by unfold Val.same at h; cases h
  | .int _, .bl _, h => by unfold Val.same at h; cases h
  | .int _, .str _, h => by unfold Val.same at h; cases h
  | .int _, .tup _, h => by unfold Val.same at h; cases h
  | .int _, .loc _, h => by unfold Val.same at h; cases h
  | .str _, .non, h => by unfold Val.same at h; cases h
  | .str _, .bl _, h => by unfold Val.same at h; cases h
  | .str _, .int _, h => by unfold Val.same at h; cases h
  | .str _, .tup _, h => by unfold Val.same at h; cases h
  | .str _, .loc _, h => by unfold Val.same at h; cases h
  | .tup _, .non, h => by unfold Val.same at h; cases h
  | .tup _, .bl _, h => by unfold Val.same at h; cases h
  | .tup _, .int _, h => by unfold Val.same at h; cases h
  | .tup _, .str _, h => by unfold Val.same at h; cases h
  | .tup _, .loc _, h => by unfold Val.same at h; cases h
theorem Val.sames_eq : ∀ (a b : List Val), Val.sames a b = true → a = b
  | [], [], _ => rfl
  | a :: r, b :: s, h => by
    unfold Val.sames at h
    rw [Bool.and_eq_true] at h
    rw [Val.same_eq a b h.1, Val.sames_eq r s h.2]
  | [], _ :: _, h => by unfold Val.sames at h; cases h
  | _ :: _, [], h => by unfold Val.sames at h; cases h
end
def glbV (G : List (Str × Val)) (x : Str) (v : Val) : Bool := match G.lookup x with
  | some w => Val.same v w
  | none => false
def argB (x : Expr) (xs : List Expr) : Bool := noStar x && xs.all noStar && decide (xs.length < 20)
def okE (G : GT) (N : List Str) : E → Option Scope → Scope → Nd → Bool
  | .nil, _, _, .es [] => true
  | .nil, _, _, .o none => true
  | .cons e es, fo, sc, .es (x :: xs) => noStar x && okE G N e fo sc (.e x) && okE G N es fo sc (.es xs)
  | .var i, _, sc, .e (.Name x _) => decide (N[i]? = some x) && visB sc x && !oddN x
  | .cst v, _, _, .e (.Constant c _ _) => okC v c
  | .glb x v, _, sc, .e (.Name y _) => decide (x = y) && glB sc x && !oddN x && glbV G.gcs x v
  | .bin o a b, fo, sc, .e (.BinOp x o' y _) => decide (o = o') && okE G N a fo sc (.e x) && okE G N b fo sc (.e y)
  | .neg a, fo, sc, .e (.UnaryOp .USub x _) => okE G N a fo sc (.e x)
  | .cmp o a b, fo, sc, .e (.Compare x [o'] [y] _) => decide (o = o') && noSet y && okE G N a fo sc (.e x) && okE G N b fo sc (.e y)
  | .and_ a b, fo, sc, .e (.BoolOp .And (x :: y :: r) p) => okE G N a fo sc (.e x) && okE G N b fo sc (.e (match r with | [] => y | _ => .BoolOp .And (y :: r) p))
  | .or_ a b, fo, sc, .e (.BoolOp .Or (x :: y :: r) p) => okE G N a fo sc (.e x) && okE G N b fo sc (.e (match r with | [] => y | _ => .BoolOp .Or (y :: r) p))
  | .not_ a, fo, sc, .e (.UnaryOp .Not x _) => okE G N a fo sc (.e x)
  | .ite c a b, fo, sc, .e (.IfExp x y z _) => okE G N c fo sc (.e x) && okE G N a fo sc (.e y) && okE G N b fo sc (.e z)
  | .tup es, fo, sc, .e (.Tuple xs _ _) => okE G N es fo sc (.es xs)
  | .lst es, fo, sc, .e (.List xs _) => okE G N es fo sc (.es xs)
  | .idx a b, fo, sc, .e (.Subscript x y _) => noSl y && okE G N a fo sc (.e x) && okE G N b fo sc (.e y)
  | .slc a lo hi, fo, sc, .e (.Subscript x (.Slice l u none _) _) => okE G N a fo sc (.e x) && okE G N lo fo sc (match l with | none => .o none | some z => .e z) && okE G N hi fo sc (match u with | none => .o none | some z => .e z)
  | .call f es, fo, sc, .e (.Call (.Name x _) xs [] _) => decide (G.fns[f]? = some (x, xs.length)) && glB sc x && !oddN x && xs.all noStar && okE G N es fo sc (.es xs)
  | .blt b es, fo, sc, .e (.Call (.Name x _) (y :: ys) [] _) => decide (x = bltName b) && glB sc x && argB y ys && okE G N es fo sc (.es (y :: ys))
  | .isi t a, fo, sc, .e (.Call (.Name x _) [y, .Name z _] [] _) => decide (x = "isinstance") && glB sc x && decide (z = tkStr t) && glB sc z && noStar y && okE G N a fo sc (.e y)
  | .mth m o es, fo, sc, .e (.Call (.Attribute x n ap) [] [] p) => decide (n = mtName m) && noSuper x && (ap.endLine == p.line) && okE G N o fo sc (.e x) && okE G N es fo sc (.es [])
  | .mth m o es, fo, sc, .e (.Call (.Attribute x n ap) (y :: ys) [] p) => decide (n = mtName m) && noSuper x && (ap.endLine == p.line) && argB y ys && okE G N o fo sc (.e x) && okE G N es fo sc (.es (y :: ys))
  | .rng1 a, fo, sc, .e (.Call (.Name x _) [y] [] _) => decide (x = "range") && glB sc x && noStar y && okE G N a fo sc (.e y)
  | .rng2 a b, fo, sc, .e (.Call (.Name x _) [y, z] [] _) => decide (x = "range") && glB sc x && noStar y && noStar z && okE G N a fo sc (.e y) && okE G N b fo sc (.e z)
  | .lc own t it cond elt, fo, sc, .e (.ListComp x [⟨tg, y, ifs, 0⟩] bs _) => blkC N sc bs (ownP N own) && (ntIs t).all (fun i => decide (i ∈ own)) && okT N (some bs) (relS bs sc) t tg && noSet y && okE G N it fo sc (.e y) && decide (ifs.length ≤ 1) &&
      okE G N cond (some bs) (relS bs sc) (.es ifs) && okE G N elt (some bs) (relS bs sc) (.e x)
  | _, _, _, _ => false
end Gu
end

section
set_option Elab.async false
set_option linter.all false
set_option maxRecDepth 100000
/-! Gu7: expressions are sound. -/
namespace Gu
open PySem PySem.Spec PyProof.Rows L2

/-! ### slots -/
structure Slots (K : PySem.W.Frag) (H : Hp) (L : List Addr) (ρ : Rho) (σ : L2.St) : Prop where
  len : ρ.length = σ.length
  at_ : ∀ (i : Nat) (v : Val), ρ[i]? = some (some v) → ∃ x, σ[i]? = some (some x) ∧ RV K H L v x
section
variable {K : PySem.W.Frag} {H H' : Hp} {L L' : List Addr} {ρ : Rho} {σ : L2.St}
theorem Slots.mono (r : Slots K H L ρ σ) (x : Ext K H L H' L') : Slots K H' L' ρ σ := ⟨r.len, fun i v e => by
  obtain ⟨y, h1, h2⟩ := r.at_ i v e
  exact ⟨y, h1, RV.mono x v y h2⟩⟩
theorem Slots.set (r : Slots K H L ρ σ) (i : Nat) {v : Val} {x : V} (h : RV K H L v x) : Slots K H L (ρ.set i (some v)) (σ.set i (some x)) := ⟨by simp [r.len], fun j w e => by
  by_cases hj : i = j
  · subst hj
    by_cases hi : i < ρ.length
    · rw [List.getElem?_set_self hi] at e
      cases e
      exact ⟨x, List.getElem?_set_self (by rw [← r.len]; exact hi), h⟩
    · rw [List.getElem?_eq_none (by simpa using hi)] at e
      cases e
  · rw [List.getElem?_set_ne hj] at e ⊢
    exact r.at_ j w e⟩
theorem Slots.wipe (r : Slots K H L ρ σ) : ∀ vs : List Nat, Slots K H L (wipeR ρ vs) (L2.wipe σ vs)
  | [] => r
  | v :: vs => by
    have ih := Slots.wipe r vs
    refine ⟨by simp [wipeR, L2.wipe, ih.len], fun j w e => ?_⟩
    unfold wipeR at e
    unfold L2.wipe
    by_cases hj : v = j
    · subst hj
      by_cases hi : v < (wipeR ρ vs).length
      · rw [List.getElem?_set_self hi] at e; cases e
      · rw [List.getElem?_eq_none (by simpa using hi)] at e; cases e
    · rw [List.getElem?_set_ne hj] at e ⊢
      exact ih.at_ j w e
end

/-! ### what an expression asks -/
section
variable (K : PySem.W.Frag) (W : L2.St → XW) (call : CallT)
def tV (e : E) : TE := fun σ H Q => ∃ ρ h L, Slots K H L ρ σ ∧ HR K H L h ∧ outV K (W σ) H L ((ev call e).v ρ h) (fin1 K Q)
def tA (e : E) : TA := fun σ H Q => ∃ ρ h L, Slots K H L ρ σ ∧ HR K H L h ∧ outV K (W σ) H L ((ev call e).a ρ h) fun vs _ H' L' => ∀ xs, RVs K H' L' vs xs → Q xs H'
def tT (e : E) : TT := fun σ H Q => ∃ ρ h L, Slots K H L ρ σ ∧ HR K H L h ∧ outV K (W σ) H L ((ev call e).t ρ h) fun b _ H' _ => Q b H'
def tO (e : E) : TO := fun σ H Q => ∃ ρ h L, Slots K H L ρ σ ∧ HR K H L h ∧ outV K (W σ) H L ((ev call e).o ρ h) fun o _ H' _ => Q o H'
/-- what is walked -/
def ItR (H : Hp) (L : List Addr) : Items → It → Prop
  | .vals xs, J => (∃ a ys, J = Itt K a ∧ SqT K H a ys ∧ RVs K H L xs ys) ∨ (∃ a ys, J = Itl K a ∧ SqF K H a ys ∧ RVs K H L xs ys) ∨ ∃ s, J = Its (toS s) ∧ okS s ∧ xs = s.map fun c => Val.str [c]
  | .live n _, J => ∃ a, J = Itl K a ∧ L[n]? = some a
  | .rng lo n, J => J = Itr lo n
  | .enm _ _, _ => False
def tI (e : E) : TI := fun σ H R => ∃ ρ h L, Slots K H L ρ σ ∧ HR K H L h ∧ outV K (W σ) H L ((ev call e).i ρ h) fun it _ H' L' => ∀ J, ItR K H' L' it J → R J H'
end
/-- a def's promise -/
def noW : L2.St → XW := fun _ _ _ _ _ _ => False
def spG (K : PySem.W.Frag) (call : CallT) (f np : Nat) : Sp := fun vs H Q _ => vs.length = np ∧ ∃ gvs h L, HR K H L h ∧ RVs K H L gvs vs ∧ outV K (noW []) H L (call f gvs h) (fin1 K Q)
def bnames : List Str := ["len", "int", "str", "list", "tuple", "bool", "range", "isinstance"]
structure XOk (G : GT) (N : List Str) (call : CallT) (fo : Option Scope) (sc : Scope) (X : Cx) : Prop where
  names : X.N = N
  nd : N.Nodup
  calm : X.calm = true
  sc : X.env.scope = sc
  fn : ∀ x, fcB fo x = true → X.fn x = true
  un : X.A.units + 164 < cLine
  hp : PassesOwn (model X.prog X.w) X.A X.env X.xe
  unb : ∀ x ∈ bnames, X.mg x = none
  glb : ∀ x v, G.gcs.lookup x = some v → ∃ u y, X.mg x = some u ∧ RelV y u ∧ ∀ H L, RV X.K H L v y
  len : ∀ f x np (gvs : List Val) h, G.fns[f]? = some (x, np) → gvs.length ≠ np → call f gvs h = .no
  noex : ∀ f gvs h c as h', call f gvs h ≠ .ex c as h'
  fns : ∀ f x np, G.fns[f]? = some (x, np) → ∃ fa fd ps k, FnOk X.prog X.w X.K X.mg X.base CX0 k fa fd ps (spG X.K call f np) ∧ Room k X.A ∧ X.mg x = some (.ref fa) ∧ PySem.W.keepIn X.K (.ref fa) = true ∧ Binds X.K fd ps [] ∧ ps.length = np
section
variable {X : Cx}
theorem PE.imp {e : Expr} {t t' : TE} (h : PE X e t) (i : ∀ σ H Q, t' σ H Q → t σ H Q) : PE X e t' := ⟨fun pins s σ H Q I q => h.run pins s σ H Q I (i _ _ _ q)⟩
theorem PT.imp {e : Expr} {t t' : TT} (h : PT X e t) (i : ∀ σ H Q, t' σ H Q → t σ H Q) : PT X e t' := ⟨fun pins s σ H Q I q => h.run pins s σ H Q I (i _ _ _ q)⟩
theorem PW.imp {e : Expr} {t t' : TT} (h : PW X e t) (i : ∀ σ H Q, t' σ H Q → t σ H Q) : PW X e t' := ⟨fun wh pins s σ H Q I q => h.run wh pins s σ H Q I (i _ _ _ q)⟩
theorem PA.imp {e : List Expr} {t t' : TA} (h : PA X e t) (i : ∀ σ H Q, t' σ H Q → t σ H Q) : PA X e t' := ⟨fun p pins s σ H Q I q => h.run p pins s σ H Q I (i _ _ _ q)⟩
theorem PO.imp {e : Option Expr} {t t' : TO} (h : PO X e t) (i : ∀ σ H Q, t' σ H Q → t σ H Q) : PO X e t' := ⟨fun pins s σ H Q I q => h.run pins s σ H Q I (i _ _ _ q)⟩
theorem PI.imp {tg e : Expr} {t t' : TI} (h : PI X tg e t) (i : ∀ σ H Q, t' σ H Q → t σ H Q) : PI X tg e t' := ⟨fun pins s σ H Q I q => h.run pins s σ H Q I (i _ _ _ q)⟩
theorem PTs.imp {e : List Expr} {t t' : TT} (h : PTs X e t) (i : ∀ σ H Q, t' σ H Q → t σ H Q) : PTs X e t' := ⟨fun pins s σ H Q I q => h.run pins s σ H Q I (i _ _ _ q)⟩
theorem PE.absurd {e : Expr} {t : TE} (i : ∀ σ H Q, ¬ t σ H Q) : PE X e t := ⟨fun _ _ _ _ _ _ q => (i _ _ _ q).elim⟩
theorem PT.absurd {e : Expr} {t : TT} (i : ∀ σ H Q, ¬ t σ H Q) : PT X e t := ⟨fun _ _ _ _ _ _ q => (i _ _ _ q).elim⟩
theorem PI.absurd {tg e : Expr} {t : TI} (i : ∀ σ H Q, ¬ t σ H Q) : PI X tg e t := ⟨fun _ _ _ _ _ _ q => (i _ _ _ q).elim⟩
theorem star_cons {e : Expr} {es : List Expr} {env : Env} (h : noStar e = true) : starEach (e :: es) env = (false, eval e env) :: starEach es env := by
  cases e <;> first | rfl | (cases h)
theorem star_plain {env : Env} {pos : Pos} : ∀ {es : List Expr}, es.all noStar = true → (backTo pos (starEach es env)).any (·.1) = false
  | [], _ => rfl
  | e :: es, h => by
    rw [List.all_cons, Bool.and_eq_true] at h
    rw [star_cons h.1]
    show (false || (backTo pos (starEach es env)).any (·.1)) = false
    rw [star_plain h.2]; rfl
theorem mark_of {op : CmpOp} {e : Expr} (h : noSet e = true) : behindInMarks op e = false := by
  cases e <;> first | rfl | (cases h)
theorem ix_of {e : Expr} (h : noSl e = true) : PlainIx e := by
  intro o i
  cases e <;> first | rfl | (cases h)
theorem set_of {e : Expr} {env : Env} (h : noSet e = true) : ∀ x, foldedSetIterable e env x = pure x := by
  intro x
  cases e <;> first | rfl | (cases h)
theorem base_of {o : Expr} {n : Str} {env : Env} {whole : Sem Value} (h : noSuper o = true) : attributeBase o n env whole = whole := by
  unfold attributeBase
  split
  · rename_i x p q
    have hx : (x != ("super" : Str)) = true := h
    simp only [hx, Bool.true_or, if_true]
  · rfl
theorem test_of {e : Expr} (h : plainT e = true) {env : Env} : ∀ whole, isTrue e env whole = (do let v ← whole; standAt e.pos; holding [v] (truthy v)) := by
  intro whole
  cases e <;> first | rfl | (cases h) | (rename_i op _ _; cases op <;> first | rfl | (cases h))
end
end Gu
end

section
set_option Elab.async false
set_option linter.all false
set_option maxRecDepth 100000
/-! Gu8: expressions are sound. -/
namespace Gu
open PySem PySem.Spec PyProof.Rows L2

section
variable {X : Cx} {tg : Expr}
def iAny (K : PySem.W.Frag) (te : TE) : TI := fun σ H R => te σ H fun x H1 =>
  (∃ a, x = .ref a ∧ (∃ xs, SqL K H1 a xs) ∧ R (Itl K a) H1) ∨ (∃ a, x = .ref a ∧ (∃ xs, SqT K H1 a xs) ∧ R (Itt K a) H1) ∨ (∃ s, x = .str s ∧ R (Its s) H1)
theorem pi_any {l : Expr} {tl : TE} (hl : PE X l tl) : PI X tg l (iAny X.K tl) := by
  refine ⟨fun pins s σ H R I h => ?_⟩
  refine thn (hl.run pins s σ H _ I h) fun v s1 ⟨x, H1, I1, r1, q1⟩ => ?_
  rcases q1 with ⟨a, e, ⟨xs, hq⟩, q⟩ | ⟨a, e, ⟨xs, hq⟩, q⟩ | ⟨x', ex, q⟩
  · subst e
    cases r1
    obtain ⟨its, rv, p, hz⟩ := I1.list hq
    refine wpAny_pyIter_list p.isList ?_
    refine ⟨s1.heap.objs.size, [s1.heap.objs.size], _, _, H1, rfl, I1.kept (t' := s1.toks) fun b o e => Heap.get?_push_of_some _ e, turn_list a _, ⟨_, Heap.get?_push_size _ rfl, rfl, rfl⟩, fun b hb => ?_, q⟩
    have e : b = s1.heap.objs.size := by simpa using hb
    subst e
    exact I1.fpOk (Nat.le_refl _) (I1.hok.fresh (Nat.le_refl _))
  · subst e
    cases r1
    obtain ⟨its, rv, p, hz⟩ := I1.tuple hq
    refine wpAny_pyIter_tuple (show s1.heap.IsTuple a its.toArray from p) ?_
    refine ⟨s1.heap.objs.size, [s1.heap.objs.size], _, _, H1, rfl, I1.kept (t' := s1.toks) fun b o e => Heap.get?_push_of_some _ e, turn_tuple a _, ⟨_, Heap.get?_push_size _ rfl, rfl, rfl⟩, fun b hb => ?_, q⟩
    have e : b = s1.heap.objs.size := by simpa using hb
    subst e
    exact I1.fpOk (Nat.le_refl _) (I1.hok.fresh (Nat.le_refl _))
  · subst ex
    obtain ⟨t, rfl⟩ := r1
    cases ha : x'.cps.all (· < 128)
    · exact wpAny_pyIter_wide ha (pi_one (tk := s1.toks) I1 _ (turn_str _ x' t "str_iterator" (.inr rfl)) ⟨_, Heap.get?_push_size _ rfl, rfl, rfl⟩ q)
    · exact wpAny_pyIter_ascii ha (pi_one (tk := s1.toks) I1 _ (turn_str _ x' t "str_ascii_iterator" (.inl rfl)) ⟨_, Heap.get?_push_size _ rfl, rfl, rfl⟩ q)
end

/-- an expression of the small language is sound at its text -/
structure SndE (X : Cx) (W : L2.St → XW) (call : CallT) (e : E) (x : Expr) : Prop where
  pe : PE X x (tV X.K W call e)
  pt : PT X x (tT X.K W call e)
  pi : ∀ tg, PI X tg x (tI X.K W call e)
  pw : ∀ op vs p, x = .BoolOp op vs p → PW X x (tT X.K W call e)
theorem SndE.po {X : Cx} {W : L2.St → XW} {call : CallT} {e : E} {x : Expr} (h : SndE X W call e x) (ho : (ev call e).o = fun ρ h => ((ev call e).v ρ h).bind fun x h1 => match x with | .int k => .ok (some k) h1 | _ => .no) : PO X (some x) (tO X.K W call e) :=
  PO.imp (po_some h.pe) fun σ H Q q => by
    obtain ⟨ρ, hh, L, rs, hr, q⟩ := q
    rw [ho] at q
    refine ⟨ρ, hh, L, rs, hr, ?_⟩
    refine (outV.bind q).imp fun v h1 H1 L1 r1 x1 q1 => ?_
    intro z hz
    split at q1
    · obtain rfl := hz.int_of
      exact ⟨_, rfl, outV.here q1 r1⟩
    · exact q1.elim
structure SndL (X : Cx) (W : L2.St → XW) (call : CallT) (e : E) (xs : List Expr) : Prop where
  pa : PA X xs (tA X.K W call e)
  pts : xs.length ≤ 1 → PTs X xs (tT X.K W call e)
def Snd (X : Cx) (W : L2.St → XW) (call : CallT) (e : E) : Nd → Prop
  | .e x => SndE X W call e x
  | .es xs => SndL X W call e xs
  | .o x => PO X x (tO X.K W call e)

section
variable {X : Cx} {W : L2.St → XW} {call : CallT} {e a b : E} {x y : Expr}
theorem tI_any2 {K : PySem.W.Frag} {W : L2.St → XW} {call : CallT} {e : E} (f : Rho → MH → R Val) (hv : (ev call e).v = f) (hi : (ev call e).i = fun ρ h => (f ρ h).bind fun x h1 => R.ofO (itemsV h1 x) h1) {σ H R} (q : tI K W call e σ H R) : iAny K (tV K W call e) σ H R := by
  obtain ⟨ρ, h, L, rs, hr, q⟩ := q
  rw [hi] at q
  refine ⟨ρ, h, L, rs, hr, ?_⟩
  rw [hv]
  refine (outV.bind q).imp fun v h1 H1 L1 r1 x1 q1 => ?_
  obtain ⟨its, e1, q2⟩ := q1.ofO r1
  intro z hz
  cases v with
  | tup vs =>
    obtain ⟨p, xs, rfl, hp, hv⟩ := hz.tup_of
    cases e1
    exact .inr (.inl ⟨p, rfl, ⟨xs, hp⟩, q2 _ (.inl ⟨p, xs, rfl, hp, hv⟩)⟩)
  | fro vs =>
    obtain ⟨p, xs, rfl, hp, hv⟩ := hz.fro_of
    cases e1
    exact .inl ⟨p, rfl, ⟨xs, hp.sq⟩, q2 _ (.inr (.inl ⟨p, xs, rfl, hp, hv⟩))⟩
  | loc n =>
    have e1' : (seqL h1 n).map (fun xs => Items.live n xs.length) = some its := e1
    cases eq : seqL h1 n with
    | none => rw [eq] at e1'; cases e1'
    | some vs =>
      rw [eq] at e1'
      cases e1'
      obtain ⟨p, xs, rfl, ep, hp, hv⟩ := the_seq r1 hz eq
      exact .inl ⟨p, rfl, ⟨xs, hp⟩, q2 _ ⟨p, rfl, ep⟩⟩
  | str s =>
    obtain ⟨rfl, k⟩ := hz.str_of
    cases e1
    exact .inr (.inr ⟨_, rfl, q2 _ (.inr (.inr ⟨s, rfl, k, rfl⟩))⟩)
  | non => cases e1
  | bl _ => cases e1
  | int _ => cases e1
theorem tI_any {K : PySem.W.Frag} {W : L2.St → XW} {call : CallT} {e : E} (f : Rho → MH → R Val) (he : ev call e = Den.ofV f) {σ H R} (q : tI K W call e σ H R) : iAny K (tV K W call e) σ H R :=
  tI_any2 f (by rw [he]; rfl) (by rw [he]; rfl) q
/-- from its value alone -/
theorem SndE.of (f : Rho → MH → R Val) (he : ev call e = Den.ofV f) (hp : plainT x = true) (pe : PE X x (tV X.K W call e)) : SndE X W call e x where
  pe := pe
  pt := by
    refine PT.imp (pt_truth pe (test_of hp)) fun σ H Q q => ?_
    obtain ⟨ρ, h, L, rs, hr, q⟩ := q
    rw [he] at q
    refine ⟨ρ, h, L, rs, hr, ?_⟩
    rw [he]
    refine (outV.bind q).imp fun v h1 H1 L1 r1 x1 q1 => ?_
    obtain ⟨k, e1, q2⟩ := q1.ofO r1
    intro z hz
    exact ⟨k, tru_of r1 hz e1, q2⟩
  pi := fun tg => PI.imp (pi_any pe) fun σ H R q => tI_any f he q
  pw := fun op vs p e' => by subst e'; cases hp
theorem SndE.pi' (f : Rho → MH → R Val) (he : ev call e = Den.ofV f) (pe : PE X x (tV X.K W call e)) (tg : Expr) : PI X tg x (tI X.K W call e) := PI.imp (pi_any pe) fun σ H R q => tI_any f he q
def r2E (K : PySem.W.Frag) (f : Val → Val → MH → R Val) : R2 := fun x y H Q => ∃ W, r2 K W f x y H Q
theorem opr_any {g : Value → Value → Sem Value} {f : Val → Val → MH → R Val} (h : ∀ W, OpR X g (r2 X.K W f)) : OpR X g (r2E X.K f) := fun pins s σ H x y v u Q I rx ry ⟨W, q⟩ => h W pins s σ H x y v u Q I rx ry q
theorem ixr_any {f : Val → Val → MH → R Val} (h : ∀ W, IxR X (r2 X.K W f)) : IxR X (r2E X.K f) := fun va sl pins s σ H x y v u Q I rx ry ⟨W, q⟩ hs => h W va sl pins s σ H x y v u Q I rx ry q hs
/-- two values, then f -/
theorem t_two {K : PySem.W.Frag} {f : Val → Val → MH → R Val} {g : E} (hg : ∀ ρ h, (ev call g).v ρ h = ((ev call a).v ρ h).bind fun p h1 => ((ev call b).v ρ h1).bind fun q h2 => f p q h2) {σ H Q} (q : tV K W call g σ H Q) :
    tOp (r2E K f) (tV K W call a) (tV K W call b) σ H Q := by
  obtain ⟨ρ, h, L, rs, hrr, q⟩ := q
  rw [hg] at q
  refine ⟨ρ, h, L, rs, hrr, ?_⟩
  refine (outV.bind q).imp fun v h1 H1 L1 r1 x1 q1 => ?_
  intro u hu
  refine ⟨ρ, h1, L1, rs.mono x1, r1, ?_⟩
  refine (outV.bind q1).imp fun v2 h2 H2 L2 r2' x2 q2 => ?_
  intro u2 hu2
  exact ⟨W σ, v, v2, h2, L2, r2', RV.mono x2 _ _ hu, hu2, q2⟩
/-- arguments, then f -/
def rNE (K : PySem.W.Frag) (f : List Val → MH → R Val) : List V → Hp → VK → Prop := fun xs H Q => ∃ W, rN K W f xs H Q
theorem callr_any {u : Value} {f : List Val → MH → R Val} (h : ∀ W, CallR X u (rN X.K W f)) : CallR X u (rNE X.K f) := fun pins s σ H xs us Q I rs ⟨W, q⟩ => h W pins s σ H xs us Q I rs q
theorem t_args {K : PySem.W.Frag} {f : List Val → MH → R Val} {g es : E} (hg : ∀ ρ h, (ev call g).v ρ h = ((ev call es).a ρ h).bind fun p h1 => f p h1) {σ H Q} (q : tV K W call g σ H Q) :
    tCB (rNE K f) (tA K W call es) σ H Q := by
  obtain ⟨ρ, h, L, rs, hrr, q⟩ := q
  rw [hg] at q
  refine ⟨ρ, h, L, rs, hrr, ?_⟩
  refine (outV.bind q).imp fun v h1 H1 L1 r1 x1 q1 => ?_
  intro us hu
  exact ⟨W σ, v, h1, L1, r1, hu, q1⟩
def rME (K : PySem.W.Frag) (f : Val → List Val → MH → R Val) : V → List V → Hp → VK → Prop := fun x xs H Q => ∃ W, rM K W f x xs H Q
theorem mtr_any {id : String} {f : Val → List Val → MH → R Val} (h : ∀ W, MtR X id (rM X.K W f)) : MtR X id (rME X.K f) := fun pins s σ H x xs v us Q I rx rs ⟨W, q⟩ => h W pins s σ H x xs v us Q I rx rs q
def rSlE (K : PySem.W.Frag) : V → Option Int → Option Int → Hp → VK → Prop := fun x lo hi H Q => ∃ W, rSl K W x lo hi H Q
theorem slr_any : SlR X (rSlE X.K) := fun pins s σ H x v vl vu lo hi sl Q I rx hs pl pu ⟨W, q⟩ => slr_slc pins s σ H x v vl vu lo hi sl Q I rx hs pl pu q
theorem tA_nil {es : E} (he : ev call es = { Den.none with a := fun _ h => .ok [] h, o := fun _ h => .ok Option.none h, t := fun _ h => .ok true h }) {σ H Q} (q : tA X.K W call es σ H Q) : tNil σ H Q := by
  obtain ⟨ρ, h, L, rs, hr, q⟩ := q
  rw [he] at q
  exact outV.here q hr _ RVs.nil
theorem tA_cons {es : E} (he : (ev call e).a = fun ρ h => ((ev call a).v ρ h).bind fun x h1 => ((ev call es).a ρ h1).bind fun xs h2 => .ok (x :: xs) h2) {σ H Q} (q : tA X.K W call e σ H Q) : tCons (tV X.K W call a) (tA X.K W call es) σ H Q := by
  obtain ⟨ρ, h, L, rs, hr, q⟩ := q
  rw [he] at q
  refine ⟨ρ, h, L, rs, hr, ?_⟩
  refine (outV.bind q).imp fun v h1 H1 L1 r1 x1 q1 => ?_
  intro u hu
  refine ⟨ρ, h1, L1, rs.mono x1, r1, ?_⟩
  refine (outV.bind q1).imp fun vs h2 H2 L2 r2' x2 q2 => ?_
  intro us hus
  exact q2.here r2' _ (RVs.cons (RV.mono x2 _ _ hu) hus)
end
end Gu
end

section
set_option Elab.async false
set_option linter.all false
set_option maxRecDepth 100000
set_option maxHeartbeats 4000000
/-! Gu9: expressions are sound. -/
namespace Gu
open PySem PySem.Spec PyProof.Rows L2
section
variable {G : GT} {N : List Str} {call : CallT}
theorem sgl {X : Cx} {fo : Option Scope} {sc : Scope} (ok : XOk G N call fo sc X) {x : Str} (h : glB sc x = true) : Gl X x := by
  unfold glB at h
  split at h
  · rename_i e
    show X.env.scope.names.lookup x = _
    rw [ok.sc]
    exact e
  · cases h
theorem svis {X : Cx} {fo : Option Scope} {sc : Scope} (ok : XOk G N call fo sc X) {x : Str} (h : visB sc x = true) : Vis X.env.scope x := by
  unfold Vis
  rw [ok.sc]
  unfold visB at h
  split at h
  · rename_i e; exact .inl e
  · rename_i e; exact .inr (.inl e)
  · rename_i e; exact .inr (.inr e)
  · cases h
theorem odd_of {x : Str} (h : (!oddN x) = true) : (x == ("__debug__" : Str)) = false ∧ (x == ("__classdict__" : Str)) = false ∧ x ≠ ("__name__" : Str) := by
  unfold oddN at h
  simp only [Bool.not_eq_true', Bool.or_eq_false_iff] at h
  exact ⟨h.1.1, h.1.2, fun e => by have := h.2; simp [e] at this⟩
theorem pt_ifExp {X : Cx} {c a b : Expr} {pos : Pos} {tc ta tb : TT} (hc : PT X c tc) (ha : PT X a ta) (hb : PT X b tb) : PT X (.IfExp c a b pos) (fun σ H Q => tc σ H fun k H1 => if k = true then ta σ H1 Q else tb σ H1 Q) := by
  refine ⟨fun pins s σ H Q I h => ?_⟩
  have e : isTrue (.IfExp c a b pos) X.env (eval (.IfExp c a b pos) X.env) = (do if ← isTrue c X.env (eval c X.env) then isTrue a X.env (eval a X.env) else isTrue b X.env (eval b X.env)) := by rfl
  rw [e]
  refine wpAny_bind (thn (hc.run pins s σ H _ I h) fun k s1 ⟨H1, I1, q1⟩ => ?_)
  cases k with
  | true => exact ha.run pins s1 σ H1 Q I1 q1
  | false => exact hb.run pins s1 σ H1 Q I1 q1
theorem s_nil {X : Cx} {W : L2.St → XW} {fo : Option Scope} {sc : Scope} {nd : Nd} (ok : XOk G N call fo sc X) (h : okE G N .nil fo sc nd = true) : Snd X W call .nil nd := by
  unfold okE at h
  split at h
  all_goals first | contradiction | (cases h; done) | skip
  · refine ⟨PA.imp pa_nil fun σ H Q q => tA_nil rfl q, fun _ => PTs.imp pts_nil fun σ H Q q => ?_⟩
    obtain ⟨ρ, h, L, rs, hr, q⟩ := q
    exact outV.here q hr
  · refine PO.imp po_none fun σ H Q q => ?_
    obtain ⟨ρ, h, L, rs, hr, q⟩ := q
    exact outV.here q hr
theorem s_var {X : Cx} {W : L2.St → XW} {fo : Option Scope} {sc : Scope} {nd : Nd} {i : Nat} (ok : XOk G N call fo sc X) (h : okE G N (.var i) fo sc nd = true) : Snd X W call (.var i) nd := by
  unfold okE at h
  split at h
  all_goals first | contradiction | (cases h; done) | skip
  rename_i he
  cases he
  simp only [Bool.and_eq_true, decide_eq_true_eq] at h
  obtain ⟨o1, o2, _⟩ := odd_of h.2
  refine SndE.of _ rfl rfl ?_
  refine PE.imp (pe_var (i := i) (by rw [ok.names]; exact h.1.1) (svis ok h.1.2) o1 o2) fun σ H Q q => ?_
  obtain ⟨ρ, hp, L, rs, hr, q⟩ := q
  obtain ⟨v, e1, q1⟩ := outV.ofO (o := (ρ[i]?).join) q hr
  have e2 : ρ[i]? = some (some v) := by
    cases e : ρ[i]? with
    | none => rw [e] at e1; cases e1
    | some w => rw [e] at e1; have e1' : w = some v := e1; rw [e1']
  obtain ⟨z, e3, hz⟩ := rs.at_ _ _ e2
  exact ⟨z, e3, q1 z hz⟩
theorem s_bin {X : Cx} {W : L2.St → XW} {fo : Option Scope} {sc : Scope} {nd : Nd} {o : Operator} {a b : E} (ok : XOk G N call fo sc X)
    (iha : ∀ x, okE G N a fo sc (.e x) = true → SndE X W call a x) (ihb : ∀ x, okE G N b fo sc (.e x) = true → SndE X W call b x) (h : okE G N (.bin o a b) fo sc nd = true) : Snd X W call (.bin o a b) nd := by
  unfold okE at h
  split at h
  all_goals first | contradiction | (cases h; done) | skip
  rename_i he
  cases he
  simp only [Bool.and_eq_true, decide_eq_true_eq] at h
  obtain ⟨⟨rfl, h1⟩, h2⟩ := h
  exact SndE.of _ rfl rfl (PE.imp (pe_op (opr_any fun W => opr_bin _) (iha _ h1).pe (ihb _ h2).pe) fun σ H Q q => t_two (fun _ _ => rfl) q)
theorem s_cst {X : Cx} {W : L2.St → XW} {fo : Option Scope} {sc : Scope} {nd : Nd} {v : Val} (ok : XOk G N call fo sc X)
     (h : okE G N (.cst v) fo sc nd = true) : Snd X W call (.cst v) nd := by
  unfold okE at h
  split at h
  all_goals first | contradiction | (cases h; done) | skip
  rename_i he
  cases he
  refine SndE.of _ rfl rfl ?_
  have fin : ∀ {σ H Q} {z : V}, (∀ H L, RV X.K H L v z) → tV X.K W call (.cst v) σ H Q → Q z H := fun {σ H Q z} hz q => by
    obtain ⟨ρ, hh, L, rs, hr, q⟩ := q
    exact outV.here q hr z (hz _ _)
  unfold okC at h
  split at h
  · exact PE.imp pe_non fun σ H Q q => fin (fun _ _ => .mk_non) q
  · rw [← eq_of_beq h]
    exact PE.imp pe_bl fun σ H Q q => fin (fun _ _ => .mk_bl) q
  · rw [← eq_of_beq h]
    exact PE.imp pe_int fun σ H Q q => fin (fun _ _ => .mk_int) q
  · simp only [Bool.and_eq_true, decide_eq_true_eq, List.all_eq_true] at h
    obtain ⟨⟨rfl, h1⟩, h2⟩ := h
    exact PE.imp pe_str fun σ H Q q => fin (fun _ _ => .mk_str ⟨h1, h2⟩) q
  · cases h
theorem s_glb {X : Cx} {W : L2.St → XW} {fo : Option Scope} {sc : Scope} {nd : Nd} {x : Str} {v : Val} (ok : XOk G N call fo sc X)
     (h : okE G N (.glb x v) fo sc nd = true) : Snd X W call (.glb x v) nd := by
  unfold okE at h
  split at h
  all_goals first | contradiction | (cases h; done) | skip
  rename_i he
  cases he
  simp only [Bool.and_eq_true, decide_eq_true_eq] at h
  obtain ⟨⟨⟨rfl, h1⟩, h2⟩, h3⟩ := h
  obtain ⟨o1, o2, _⟩ := odd_of h2
  unfold glbV at h3
  split at h3
  · rename_i w e
    rw [Val.same_eq _ _ h3]
    obtain ⟨u, y, g1, g2, g3⟩ := ok.glb _ _ e
    refine SndE.of _ rfl rfl (PE.imp (pe_glob (sgl ok h1) g1 g2 o1) fun σ H Q q => ?_)
    obtain ⟨ρ, hh, L, rs, hr, q⟩ := q
    exact outV.here q hr y (g3 _ _)
  · cases h3
theorem s_neg {X : Cx} {W : L2.St → XW} {fo : Option Scope} {sc : Scope} {nd : Nd} {a : E} (ok : XOk G N call fo sc X)
    (iha : ∀ x, okE G N a fo sc (.e x) = true → SndE X W call a x) (h : okE G N (.neg a) fo sc nd = true) : Snd X W call (.neg a) nd := by
  unfold okE at h
  split at h
  all_goals first | contradiction | (cases h; done) | skip
  rename_i he
  cases he
  refine SndE.of _ rfl rfl (PE.imp (pe_un (r := fun x H Q => ∃ W, ∃ gx h L, HR X.K H L h ∧ RV X.K H L gx x ∧ outV X.K W H L (match gx with | .int i => .ok (.int (-i)) h | _ => .no) (fin1 X.K Q)) (fun pins s σ H x v Q I rx ⟨W, q⟩ => unr_neg (W := W) pins s σ H x v Q I rx q) (iha _ h).pe) fun σ H Q q => ?_)
  obtain ⟨ρ, h, L, rs, hrr, q⟩ := q
  refine ⟨ρ, h, L, rs, hrr, ?_⟩
  refine (outV.bind q).imp fun v h1 H1 L1 r1 x1 q1 => ?_
  intro u hu
  exact ⟨W σ, v, h1, L1, r1, hu, q1⟩
theorem s_cmp {X : Cx} {W : L2.St → XW} {fo : Option Scope} {sc : Scope} {nd : Nd} {o : CmpOp} {a b : E} (ok : XOk G N call fo sc X)
    (iha : ∀ x, okE G N a fo sc (.e x) = true → SndE X W call a x) (ihb : ∀ x, okE G N b fo sc (.e x) = true → SndE X W call b x) (h : okE G N (.cmp o a b) fo sc nd = true) : Snd X W call (.cmp o a b) nd := by
  unfold okE at h
  split at h
  all_goals first | contradiction | (cases h; done) | skip
  rename_i he
  cases he
  simp only [Bool.and_eq_true, decide_eq_true_eq] at h
  obtain ⟨⟨⟨rfl, hs⟩, h1⟩, h2⟩ := h
  have rule := opr_any (X := X) fun W => opr_cmp (W := W) ok.un o
  rename_i xe ye pos
  have pe : PE X (.Compare xe [o] [ye] pos) (tV X.K W call (.cmp o a b)) := PE.imp (pe_cmpR rule (iha _ h1).pe (ihb _ h2).pe (mark_of hs)) fun σ H Q q => t_two (fun _ _ => rfl) q
  refine ⟨pe, ?_, fun tg => PI.imp (pi_any pe) fun σ H R q => tI_any2 _ rfl rfl q, fun _ _ _ z => nomatch z⟩
  refine PT.imp (pt_cmpR rule (iha _ h1).pe (ihb _ h2).pe (mark_of hs)) fun σ H Q q => ?_
  obtain ⟨ρ, hh, L, rs, hr, q⟩ := q
  refine t_two (g := .cmp o a b) (f := fun x y h => R.ofO (cmpV o h x y) h) (fun _ _ => rfl) ⟨ρ, hh, L, rs, hr, ?_⟩
  refine (outV.bind q).imp fun v h1 H1 L1 r1 x1 q1 => ?_
  intro z hz
  split at q1
  · obtain rfl := hz.bl_of
    exact ⟨_, rfl, q1.here r1⟩
  · exact q1.elim
theorem s_and {X : Cx} {W : L2.St → XW} {fo : Option Scope} {sc : Scope} {nd : Nd} {a b : E} (ok : XOk G N call fo sc X)
    (iha : ∀ x, okE G N a fo sc (.e x) = true → SndE X W call a x) (ihb : ∀ x, okE G N b fo sc (.e x) = true → SndE X W call b x) (h : okE G N (.and_ a b) fo sc nd = true) : Snd X W call (.and_ a b) nd := by
  unfold okE at h
  split at h
  all_goals first | contradiction | (cases h; done) | skip
  rename_i he
  cases he
  simp only [Bool.and_eq_true, decide_eq_true_eq] at h
  obtain ⟨h1, h2⟩ := h
  have sa := iha _ h1
  have sb := ihb _ h2
  rename_i xe ye rest pos
  have pb : PE X (.BoolOp .And (ye :: rest) pos) (tV X.K W call b) := by
    cases rest with
    | nil => exact pe_one sb.pe
    | cons z r => exact sb.pe
  have wb : PW X (.BoolOp .And (ye :: rest) pos) (tT X.K W call b) := by
    cases rest with
    | nil => exact pw_and1 sb.pt
    | cons z r => exact sb.pw _ _ _ rfl
  have pe : PE X (.BoolOp .And (xe :: ye :: rest) pos) (tV X.K W call (.and_ a b)) := PE.imp (pe_andT sa.pe pb) fun σ H Q q => by
    obtain ⟨ρ, hh, L, rs, hr, q⟩ := q
    refine ⟨ρ, hh, L, rs, hr, ?_⟩
    refine (outV.bind q).imp fun v h1 H1 L1 r1 x1 q1 => ?_
    intro z hz
    obtain ⟨k, e1, q2⟩ := (outV.bind q1).ofO r1
    refine ⟨k, tru_of r1 hz e1, ?_⟩
    cases k with
    | true => exact ⟨ρ, h1, L1, rs.mono x1, r1, q2⟩
    | false => exact outV.here q2 r1 z hz
  have pw : PW X (.BoolOp .And (xe :: ye :: rest) pos) (tT X.K W call (.and_ a b)) := PW.imp (pw_and sa.pt wb) fun σ H Q q => by
    obtain ⟨ρ, hh, L, rs, hr, q⟩ := q
    refine ⟨ρ, hh, L, rs, hr, ?_⟩
    refine (outV.bind q).imp fun v h1 H1 L1 r1 x1 q1 => ?_
    cases v with
    | true => exact ⟨ρ, h1, L1, rs.mono x1, r1, q1⟩
    | false => exact outV.here q1 r1
  exact ⟨pe, pw.pt, fun tg => PI.imp (pi_any pe) fun σ H R q => tI_any2 _ rfl rfl q, fun _ _ _ z => by cases z; exact pw⟩
theorem s_or {X : Cx} {W : L2.St → XW} {fo : Option Scope} {sc : Scope} {nd : Nd} {a b : E} (ok : XOk G N call fo sc X)
    (iha : ∀ x, okE G N a fo sc (.e x) = true → SndE X W call a x) (ihb : ∀ x, okE G N b fo sc (.e x) = true → SndE X W call b x) (h : okE G N (.or_ a b) fo sc nd = true) : Snd X W call (.or_ a b) nd := by
  unfold okE at h
  split at h
  all_goals first | contradiction | (cases h; done) | skip
  rename_i he
  cases he
  simp only [Bool.and_eq_true, decide_eq_true_eq] at h
  obtain ⟨h1, h2⟩ := h
  have sa := iha _ h1
  have sb := ihb _ h2
  rename_i xe ye rest pos
  have pb : PE X (.BoolOp .Or (ye :: rest) pos) (tV X.K W call b) := by
    cases rest with
    | nil => exact pe_one sb.pe
    | cons z r => exact sb.pe
  have wb : PW X (.BoolOp .Or (ye :: rest) pos) (tT X.K W call b) := by
    cases rest with
    | nil => exact pw_or1 sb.pt
    | cons z r => exact sb.pw _ _ _ rfl
  have pe : PE X (.BoolOp .Or (xe :: ye :: rest) pos) (tV X.K W call (.or_ a b)) := PE.imp (pe_orT sa.pe pb) fun σ H Q q => by
    obtain ⟨ρ, hh, L, rs, hr, q⟩ := q
    refine ⟨ρ, hh, L, rs, hr, ?_⟩
    refine (outV.bind q).imp fun v h1 H1 L1 r1 x1 q1 => ?_
    intro z hz
    obtain ⟨k, e1, q2⟩ := (outV.bind q1).ofO r1
    refine ⟨k, tru_of r1 hz e1, ?_⟩
    cases k with
    | true => exact outV.here q2 r1 z hz
    | false => exact ⟨ρ, h1, L1, rs.mono x1, r1, q2⟩
  have pw : PW X (.BoolOp .Or (xe :: ye :: rest) pos) (tT X.K W call (.or_ a b)) := PW.imp (pw_or sa.pt wb) fun σ H Q q => by
    obtain ⟨ρ, hh, L, rs, hr, q⟩ := q
    refine ⟨ρ, hh, L, rs, hr, ?_⟩
    refine (outV.bind q).imp fun v h1 H1 L1 r1 x1 q1 => ?_
    cases v with
    | true => exact outV.here q1 r1
    | false => exact ⟨ρ, h1, L1, rs.mono x1, r1, q1⟩
  exact ⟨pe, pw.pt, fun tg => PI.imp (pi_any pe) fun σ H R q => tI_any2 _ rfl rfl q, fun _ _ _ z => by cases z; exact pw⟩
theorem s_not {X : Cx} {W : L2.St → XW} {fo : Option Scope} {sc : Scope} {nd : Nd} {a : E} (ok : XOk G N call fo sc X)
    (iha : ∀ x, okE G N a fo sc (.e x) = true → SndE X W call a x) (h : okE G N (.not_ a) fo sc nd = true) : Snd X W call (.not_ a) nd := by
  unfold okE at h
  split at h
  all_goals first | contradiction | (cases h; done) | skip
  rename_i he
  cases he
  rename_i xe pos
  have pe : PE X (.UnaryOp .Not xe pos) (tV X.K W call (.not_ a)) := PE.imp (pe_notT (iha _ h).pe) fun σ H Q q => by
    obtain ⟨ρ, hh, L, rs, hr, q⟩ := q
    refine ⟨ρ, hh, L, rs, hr, ?_⟩
    refine (outV.bind q).imp fun v h1 H1 L1 r1 x1 q1 => ?_
    intro z hz
    obtain ⟨k, e1, q2⟩ := (outV.bind q1).ofO r1
    exact ⟨k, tru_of r1 hz e1, outV.here q2 r1 _ .mk_bl⟩
  refine ⟨pe, ?_, fun tg => PI.imp (pi_any pe) fun σ H R q => tI_any2 _ rfl rfl q, fun _ _ _ z => nomatch z⟩
  refine PT.imp (pt_not (iha _ h).pt) fun σ H Q q => ?_
  obtain ⟨ρ, hh, L, rs, hr, q⟩ := q
  refine ⟨ρ, hh, L, rs, hr, ?_⟩
  exact (outV.bind q).imp fun v h1 H1 L1 r1 x1 q1 => outV.here q1 r1
theorem s_ite {X : Cx} {W : L2.St → XW} {fo : Option Scope} {sc : Scope} {nd : Nd} {c a b : E} (ok : XOk G N call fo sc X)
    (ihc : ∀ x, okE G N c fo sc (.e x) = true → SndE X W call c x) (iha : ∀ x, okE G N a fo sc (.e x) = true → SndE X W call a x) (ihb : ∀ x, okE G N b fo sc (.e x) = true → SndE X W call b x) (h : okE G N (.ite c a b) fo sc nd = true) : Snd X W call (.ite c a b) nd := by
  unfold okE at h
  split at h
  all_goals first | contradiction | (cases h; done) | skip
  rename_i he
  cases he
  simp only [Bool.and_eq_true, decide_eq_true_eq] at h
  obtain ⟨⟨h1, h2⟩, h3⟩ := h
  rename_i xe ye ze pos
  have pe : PE X (.IfExp xe ye ze pos) (tV X.K W call (.ite c a b)) := PE.imp (pe_ifExp (ihc _ h1).pt (iha _ h2).pe (ihb _ h3).pe) fun σ H Q q => by
    obtain ⟨ρ, hh, L, rs, hr, q⟩ := q
    refine ⟨ρ, hh, L, rs, hr, ?_⟩
    refine (outV.bind q).imp fun v h1 H1 L1 r1 x1 q1 => ?_
    cases v with
    | true => exact ⟨ρ, h1, L1, rs.mono x1, r1, q1⟩
    | false => exact ⟨ρ, h1, L1, rs.mono x1, r1, q1⟩
  refine ⟨pe, ?_, fun tg => PI.imp (pi_any pe) fun σ H R q => tI_any2 _ rfl rfl q, fun _ _ _ z => nomatch z⟩
  refine PT.imp (pt_ifExp (ihc _ h1).pt (iha _ h2).pt (ihb _ h3).pt) fun σ H Q q => ?_
  obtain ⟨ρ, hh, L, rs, hr, q⟩ := q
  refine ⟨ρ, hh, L, rs, hr, ?_⟩
  refine (outV.bind q).imp fun v h1 H1 L1 r1 x1 q1 => ?_
  cases v with
  | true => exact ⟨ρ, h1, L1, rs.mono x1, r1, q1⟩
  | false => exact ⟨ρ, h1, L1, rs.mono x1, r1, q1⟩
theorem s_tup {X : Cx} {W : L2.St → XW} {fo : Option Scope} {sc : Scope} {nd : Nd} {es : E} (ok : XOk G N call fo sc X)
    (ihes : ∀ x, okE G N es fo sc (.es x) = true → SndL X W call es x) (h : okE G N (.tup es) fo sc nd = true) : Snd X W call (.tup es) nd := by
  unfold okE at h
  split at h
  all_goals first | contradiction | (cases h; done) | skip
  rename_i he
  cases he
  refine SndE.of _ rfl rfl (PE.imp (pe_tup (ihes _ h).pa) fun σ H Q q => ?_)
  obtain ⟨ρ, hh, L, rs, hr, q⟩ := q
  refine ⟨ρ, hh, L, rs, hr, ?_⟩
  refine (outV.bind q).imp fun vs h1 H1 L1 r1 x1 q1 => ?_
  intro xs hx
  split at q1
  · rename_i c
    exact ⟨by rw [← hx.length]; exact c, fun p hp => fin_t r1 q1 hx hp⟩
  · exact q1.elim
theorem s_lst {X : Cx} {W : L2.St → XW} {fo : Option Scope} {sc : Scope} {nd : Nd} {es : E} (ok : XOk G N call fo sc X)
    (ihes : ∀ x, okE G N es fo sc (.es x) = true → SndL X W call es x) (h : okE G N (.lst es) fo sc nd = true) : Snd X W call (.lst es) nd := by
  unfold okE at h
  split at h
  all_goals first | contradiction | (cases h; done) | skip
  rename_i he
  cases he
  refine SndE.of _ rfl rfl (PE.imp (pe_lst (ihes _ h).pa) fun σ H Q q => ?_)
  obtain ⟨ρ, hh, L, rs, hr, q⟩ := q
  refine ⟨ρ, hh, L, rs, hr, ?_⟩
  refine (outV.bind q).imp fun vs h1 H1 L1 r1 x1 q1 => ?_
  intro xs hx
  split at q1
  · rename_i c
    exact ⟨by rw [← hx.length]; exact c, fun p hp => fin_l r1 q1 hx hp⟩
  · exact q1.elim
theorem s_idx {X : Cx} {W : L2.St → XW} {fo : Option Scope} {sc : Scope} {nd : Nd} {a b : E} (ok : XOk G N call fo sc X)
    (iha : ∀ x, okE G N a fo sc (.e x) = true → SndE X W call a x) (ihb : ∀ x, okE G N b fo sc (.e x) = true → SndE X W call b x) (h : okE G N (.idx a b) fo sc nd = true) : Snd X W call (.idx a b) nd := by
  unfold okE at h
  split at h
  all_goals first | contradiction | (cases h; done) | skip
  rename_i he
  cases he
  simp only [Bool.and_eq_true, decide_eq_true_eq] at h
  obtain ⟨⟨hs, h1⟩, h2⟩ := h
  exact SndE.of _ rfl rfl (PE.imp (pe_ix (ixr_any fun W => ixr_idx) (iha _ h1).pe (ihb _ h2).pe (ix_of hs)) fun σ H Q q => t_two (fun _ _ => rfl) q)
theorem s_slc {X : Cx} {W : L2.St → XW} {fo : Option Scope} {sc : Scope} {nd : Nd} {a lo hi : E} (ok : XOk G N call fo sc X)
    (iha : ∀ x, okE G N a fo sc (.e x) = true → SndE X W call a x) (ihlo : ∀ x, okE G N lo fo sc (match x with | none => .o none | some z => .e z) = true → PO X x (tO X.K W call lo)) (ihhi : ∀ x, okE G N hi fo sc (match x with | none => .o none | some z => .e z) = true → PO X x (tO X.K W call hi)) (h : okE G N (.slc a lo hi) fo sc nd = true) : Snd X W call (.slc a lo hi) nd := by
  unfold okE at h
  split at h
  all_goals first | contradiction | (cases h; done) | skip
  rename_i he
  cases he
  simp only [Bool.and_eq_true, decide_eq_true_eq] at h
  obtain ⟨⟨h1, h2⟩, h3⟩ := h
  refine SndE.of _ rfl rfl (PE.imp (pe_slice slr_any (iha _ h1).pe (ihlo _ h2) (ihhi _ h3)) fun σ H Q q => ?_)
  obtain ⟨ρ, hh, L, rs, hr, q⟩ := q
  refine ⟨ρ, hh, L, rs, hr, ?_⟩
  refine (outV.bind q).imp fun v h1 H1 L1 r1 x1 q1 => ?_
  intro z hz
  refine ⟨ρ, h1, L1, rs.mono x1, r1, ?_⟩
  refine (outV.bind q1).imp fun l h2 H2 L2 r2 x2 q2 => ?_
  refine ⟨ρ, h2, L2, (rs.mono x1).mono x2, r2, ?_⟩
  refine (outV.bind q2).imp fun u h3 H3 L3 r3 x3 q3 => ?_
  exact ⟨W σ, v, h3, L3, r3, RV.mono x3 _ _ (RV.mono x2 _ _ hz), q3⟩
theorem s_cons {X : Cx} {W : L2.St → XW} {fo : Option Scope} {sc : Scope} {nd : Nd} {e es : E} (ok : XOk G N call fo sc X)
    (ihe : ∀ x, okE G N e fo sc (.e x) = true → SndE X W call e x) (ihes : ∀ x, okE G N es fo sc (.es x) = true → SndL X W call es x) (h : okE G N (.cons e es) fo sc nd = true) : Snd X W call (.cons e es) nd := by
  unfold okE at h
  split at h
  all_goals first | contradiction | (cases h; done) | skip
  rename_i he
  cases he
  simp only [Bool.and_eq_true, decide_eq_true_eq] at h
  obtain ⟨⟨hs, h1⟩, h2⟩ := h
  rename_i xe xs
  refine ⟨PA.imp (pa_cons (ihe _ h1).pe (ihes _ h2).pa (star_cons hs)) fun σ H Q q => tA_cons rfl q, fun hl => ?_⟩
  cases xs with
  | nil => exact PTs.imp (pts_one (ihe _ h1).pt) fun σ H Q q => q
  | cons z r => simp at hl
theorem s_blt {X : Cx} {W : L2.St → XW} {fo : Option Scope} {sc : Scope} {nd : Nd} {b : BI} {es : E} (ok : XOk G N call fo sc X)
    (ihes : ∀ x, okE G N es fo sc (.es x) = true → SndL X W call es x) (h : okE G N (.blt b es) fo sc nd = true) : Snd X W call (.blt b es) nd := by
  unfold okE at h
  split at h
  all_goals first | contradiction | (cases h; done) | skip
  rename_i he
  cases he
  simp only [Bool.and_eq_true, decide_eq_true_eq] at h
  obtain ⟨⟨⟨rfl, h1⟩, h2⟩, h3⟩ := h
  unfold argB at h2
  simp only [Bool.and_eq_true] at h2
  obtain ⟨⟨h4, h5⟩, _⟩ := h2
  have g := sgl ok h1
  have ta : ∀ σ H Q, tV X.K W call (.blt b es) σ H Q → tCB (rNE X.K (biV b)) (tA X.K W call es) σ H Q := fun σ H Q q => t_args (fun _ _ => rfl) q
  have rule : CallR X (bltVal b) (rNE X.K (biV b)) := callr_any fun W => callr_blt b
  have u := ok.unb
  refine SndE.of _ rfl rfl ?_
  cases b with
  | len => exact PE.imp (pe_callB rule g (u _ (by simp [bnames, bltName])) (by decide +kernel) (ihes _ h3).pa (by decide) (by decide) (star_cons h4) (star_plain h5)) ta
  | int => exact PE.imp (pe_callTy rule g (u _ (by simp [bnames, bltName])) (by decide +kernel) (ihes _ h3).pa (by decide) (by decide) (star_cons h4) (star_plain h5)) ta
  | str => exact PE.imp (pe_callTy rule g (u _ (by simp [bnames, bltName])) (by decide +kernel) (ihes _ h3).pa (by decide) (by decide) (star_cons h4) (star_plain h5)) ta
  | list => exact PE.imp (pe_callTy rule g (u _ (by simp [bnames, bltName])) (by decide +kernel) (ihes _ h3).pa (by decide) (by decide) (star_cons h4) (star_plain h5)) ta
  | tuple => exact PE.imp (pe_callTy rule g (u _ (by simp [bnames, bltName])) (by decide +kernel) (ihes _ h3).pa (by decide) (by decide) (star_cons h4) (star_plain h5)) ta
theorem s_isi {X : Cx} {W : L2.St → XW} {fo : Option Scope} {sc : Scope} {nd : Nd} {t : TK} {a : E} (ok : XOk G N call fo sc X)
    (iha : ∀ x, okE G N a fo sc (.e x) = true → SndE X W call a x) (h : okE G N (.isi t a) fo sc nd = true) : Snd X W call (.isi t a) nd := by
  unfold okE at h
  split at h
  all_goals first | contradiction | (cases h; done) | skip
  rename_i he
  cases he
  simp only [Bool.and_eq_true, decide_eq_true_eq] at h
  obtain ⟨⟨⟨⟨⟨rfl, h1⟩, rfl⟩, h2⟩, h3⟩, h4⟩ := h
  have u := ok.unb
  have hb : ∃ n, bootBuiltins (tkStr t) = some (.type n) ∧ n = tkName t ∧ tkStr t ∈ bnames ∧ tkStr t ≠ "__name__" ∧ (tkStr t == ("__debug__" : Str)) = false := by
    cases t <;> exact ⟨_, by decide +kernel, rfl, by simp [bnames, tkStr], by decide, by decide⟩
  obtain ⟨n, b1, rfl, b2, b3, b4⟩ := hb
  refine SndE.of _ rfl rfl (PE.imp (pe_callB (r := rIsi X.K) call_isi (sgl ok h1) (u _ (by simp [bnames])) (by decide +kernel)
    (pa_cons (iha _ h4).pe (pa_cons (pe_bltn (v := .ty (tkName t)) (sgl ok h2) (u _ b2) b1 rfl b3 b4) pa_nil (star_cons rfl)) (star_cons h3)) (by decide) (by decide) (star_cons h3) (star_plain rfl)) fun σ H Q q => ?_)
  obtain ⟨ρ, hh, L, rs, hr, q⟩ := q
  refine ⟨ρ, hh, L, rs, hr, ?_⟩
  refine (outV.bind q).imp fun v h1 H1 L1 r1 x1 q1 => ?_
  intro z hz
  obtain ⟨w, e1, q2⟩ := q1.ofO r1
  cases e2 : isiV t h1 v with
  | none => rw [e2] at e1; cases e1
  | some b =>
    rw [e2] at e1
    cases e1
    obtain ⟨ty, t1, t2⟩ := isi_of r1 t hz e2
    exact ⟨z, .ty (tkName t), .type ty, .type (tkName t), b, rfl, .ty _, t1, kit_ty t2, q2 _ .mk_bl⟩
theorem s_rng1 {X : Cx} {W : L2.St → XW} {fo : Option Scope} {sc : Scope} {nd : Nd} {a : E} (ok : XOk G N call fo sc X)
    (iha : ∀ x, okE G N a fo sc (.e x) = true → SndE X W call a x) (h : okE G N (.rng1 a) fo sc nd = true) : Snd X W call (.rng1 a) nd := by
  unfold okE at h
  split at h
  all_goals first | contradiction | (cases h; done) | skip
  rename_i he
  cases he
  simp only [Bool.and_eq_true, decide_eq_true_eq] at h
  obtain ⟨⟨⟨rfl, h1⟩, h2⟩, h3⟩ := h
  refine ⟨PE.absurd fun σ H Q q => ?_, PT.absurd fun σ H Q q => ?_, fun tg => PI.imp (pi_range1 (sgl ok h1) (ok.unb _ (by simp [bnames])) (pa_cons (iha _ h3).pe pa_nil (star_cons h2)) (star_cons h2)) fun σ H R q => ?_, fun _ _ _ z => nomatch z⟩
  · obtain ⟨ρ, hh, L, rs, hr, q⟩ := q; exact q
  · obtain ⟨ρ, hh, L, rs, hr, q⟩ := q; exact q
  · obtain ⟨ρ, hh, L, rs, hr, q⟩ := q
    refine ⟨ρ, hh, L, rs, hr, ?_⟩
    refine (outV.bind q).imp fun v h1 H1 L1 r1 x1 q1 => ?_
    intro z hz
    split at q1
    · obtain rfl := hz.int_of
      split at q1
      · rename_i k c
        exact ⟨_, rfl, by omega, by omega, q1.here r1 _ rfl⟩
      · exact q1.elim
    · exact q1.elim
theorem s_rng2 {X : Cx} {W : L2.St → XW} {fo : Option Scope} {sc : Scope} {nd : Nd} {a b : E} (ok : XOk G N call fo sc X)
    (iha : ∀ x, okE G N a fo sc (.e x) = true → SndE X W call a x) (ihb : ∀ x, okE G N b fo sc (.e x) = true → SndE X W call b x) (h : okE G N (.rng2 a b) fo sc nd = true) : Snd X W call (.rng2 a b) nd := by
  unfold okE at h
  split at h
  all_goals first | contradiction | (cases h; done) | skip
  rename_i he
  cases he
  simp only [Bool.and_eq_true, decide_eq_true_eq] at h
  obtain ⟨⟨⟨⟨⟨rfl, h1⟩, h2⟩, h3⟩, h4⟩, h5⟩ := h
  refine ⟨PE.absurd fun σ H Q q => ?_, PT.absurd fun σ H Q q => ?_, fun tg => PI.imp (pi_range2 (sgl ok h1) (ok.unb _ (by simp [bnames])) (pa_cons (iha _ h4).pe (pa_cons (ihb _ h5).pe pa_nil (star_cons h3)) (star_cons h2)) (by rw [star_cons h2, star_cons h3]; rfl) (star_cons h3)) fun σ H R q => ?_, fun _ _ _ z => nomatch z⟩
  · obtain ⟨ρ, hh, L, rs, hr, q⟩ := q; exact q
  · obtain ⟨ρ, hh, L, rs, hr, q⟩ := q; exact q
  · obtain ⟨ρ, hh, L, rs, hr, q⟩ := q
    refine ⟨ρ, hh, L, rs, hr, ?_⟩
    refine (outV.bind q).imp fun v h1 H1 L1 r1 x1 q1 => ?_
    intro z hz
    refine ⟨ρ, h1, L1, rs.mono x1, r1, ?_⟩
    refine (outV.bind q1).imp fun v2 h2 H2 L2 r2 x2 q2 => ?_
    intro z2 hz2
    split at q2
    · obtain rfl := hz.int_of
      obtain rfl := hz2.int_of
      split at q2
      · rename_i c
        exact ⟨_, _, rfl, by omega, q2.here r2 _ rfl⟩
      · exact q2.elim
    · exact q2.elim
end
end Gu
end

section
set_option Elab.async false
set_option linter.all false
set_option maxRecDepth 100000
set_option maxHeartbeats 4000000
/-! Gu10: calls, methods, comprehensions; all expressions. -/
namespace Gu
open PySem PySem.Spec PyProof.Rows L2

/-! ### targets -/
def gNms : List Nat → TGs
  | [] => gNil
  | i :: is => gCons (gName i) (gNms is)
def gNT (K : PySem.W.Frag) : NT → TG
  | .nm i => gName i
  | .tp is => gTup K is.length (gNms is)
theorem wipe_out {i : Nat} {x : Option V} : ∀ {vs : List Nat} {σ : L2.St}, i ∉ vs → L2.wipe (σ.set i x) vs = (L2.wipe σ vs).set i x
  | [], _, _ => rfl
  | v :: vs, σ, h => by
    have h1 : i ≠ v := fun e => h (e ▸ List.mem_cons_self)
    have h2 : i ∉ vs := fun e => h (List.mem_cons_of_mem _ e)
    unfold L2.wipe
    rw [wipe_out h2, List.set_comm _ _ h1]
theorem wipe_in {i : Nat} {x : Option V} : ∀ {vs : List Nat} {σ : L2.St}, i ∈ vs → L2.wipe (σ.set i x) vs = L2.wipe σ vs
  | v :: vs, σ, h => by
    unfold L2.wipe
    by_cases h2 : i ∈ vs
    · rw [wipe_in h2]
    · have e : i = v := (List.mem_cons.mp h).resolve_right h2
      subst e
      rw [wipe_out h2, List.set_set]
section
variable {K : PySem.W.Frag} {H : Hp} {L : List Addr}
theorem g_names {Q : L2.St → Hp → Prop} : ∀ {is : List Nat} {vs : List Val} {xs : List V} {ρ ρ' : Rho} {σ : L2.St}, Slots K H L ρ σ → RVs K H L vs xs → setNs is vs ρ = some ρ' →
    (∀ σ', Slots K H L ρ' σ' → (∀ ws, (∀ i ∈ is, i ∈ ws) → L2.wipe σ' ws = L2.wipe σ ws) → Q σ' H) → gNms is xs σ H Q
  | [], [], xs, ρ, ρ', σ, rs, hv, e, q => by
    cases e
    exact ⟨hv.inv0, q σ rs fun _ _ => rfl⟩
  | i :: is, v :: vs, xs, ρ, ρ', σ, rs, hv, e, q => by
    obtain ⟨x, r, rfl, h1, h2⟩ := hv.inv
    refine ⟨x, r, rfl, ?_⟩
    refine g_names (rs.set i h1) h2 (show setNs is vs (ρ.set i (some v)) = some ρ' from e) fun σ' rs' w => q σ' rs' fun ws hw => ?_
    rw [w ws fun j hj => hw j (List.mem_cons_of_mem _ hj), wipe_in (hw i List.mem_cons_self)]
  | [], _ :: _, _, _, _, _, _, _, e, _ => by cases e
  | _ :: _, [], _, _, _, _, _, _, e, _ => by cases e
theorem setNs_len : ∀ {is : List Nat} {vs : List Val} {ρ ρ' : Rho}, setNs is vs ρ = some ρ' → is.length = vs.length
  | [], [], _, _, _ => rfl
  | i :: is, v :: vs, ρ, ρ', e => by
    have := setNs_len (show setNs is vs (ρ.set i (some v)) = some ρ' from e)
    simp [this]
  | [], _ :: _, _, _, e => by cases e
  | _ :: _, [], _, _, e => by cases e
theorem g_set {Q : L2.St → Hp → Prop} {t : NT} {v : Val} {x : V} {ρ ρ' : Rho} {σ : L2.St} (rs : Slots K H L ρ σ) (hv : RV K H L v x) (e : setN t v ρ = some ρ')
    (q : ∀ σ', Slots K H L ρ' σ' → (∀ ws, (∀ i ∈ ntIs t, i ∈ ws) → L2.wipe σ' ws = L2.wipe σ ws) → Q σ' H) : gNT K t x σ H Q := by
  cases t with
  | nm i =>
    cases e
    exact q _ (rs.set i hv) fun ws hw => wipe_in (hw i (by simp [ntIs]))
  | tp is =>
    cases v with
    | tup vs =>
      obtain ⟨a, xs, rfl, hp, hs⟩ := hv.tup_of
      exact ⟨a, xs, rfl, hp, by rw [← hs.length, setNs_len e], g_names rs hs e q⟩
    | _ => cases e
end
section
variable {G : GT} {N : List Str} {call : CallT} {X : Cx} {fo : Option Scope} {sc : Scope}
theorem stB_of (ok : XOk G N call fo sc X) {x : Str} (h : stB fo sc x = true) : L2.Loc X.env.scope x ∧ (X.fn x = true ∨ X.env.scope.names.lookup x = some .local) := by
  unfold stB at h
  simp only [Bool.and_eq_true, Bool.or_eq_true, beq_iff_eq] at h
  obtain ⟨h1, h2⟩ := h
  refine ⟨?_, ?_⟩
  · unfold L2.Loc
    rw [ok.sc]
    unfold locB at h1
    split at h1
    · rename_i e; exact .inl e
    · rename_i e; exact .inr e
    · cases h1
  · rw [ok.sc]
    exact h2.imp (ok.fn x) id
theorem pg_n (ok : XOk G N call fo sc X) {i : Nat} {e : Expr} (h : okN N fo sc i e = true) : PG X e (gName i) := by
  cases e <;> first | (cases h; done) | skip
  rename_i x pos
  have h' : (decide (N[i]? = some x) && stB fo sc x) = true := h
  simp only [Bool.and_eq_true, decide_eq_true_eq] at h'
  obtain ⟨h1, h2⟩ := h'
  obtain ⟨q1, q2⟩ := stB_of ok h2
  exact pg_name (by rw [ok.names]; exact ok.nd) (by rw [ok.names]; exact h1) q1 q2
theorem asg_name {e : Expr} {es : List Expr} {env : Env} {i : Nat} (h : okN N fo sc i e = true) : assignEach (e :: es) env = (false, assign e env) :: assignEach es env := by
  cases e <;> first | rfl | (cases h; done)
theorem pg_ns (ok : XOk G N call fo sc X) : ∀ {is : List Nat} {es : List Expr}, okNs N fo sc is es = true → PGs X es (gNms is) ∧ (assignEach es X.env).length = is.length ∧ (assignEach es X.env).findIdx? (·.1) = none
  | [], [], _ => ⟨pgs_nil, rfl, rfl⟩
  | i :: is, e :: es, h => by
    have h' : (okN N fo sc i e && okNs N fo sc is es) = true := h
    rw [Bool.and_eq_true] at h'
    obtain ⟨q1, q2, q3⟩ := pg_ns ok h'.2
    have ea := asg_name (es := es) (env := X.env) h'.1
    refine ⟨pgs_cons (pg_n ok h'.1) q1 (by rw [ea]; rfl), by rw [ea]; simp [q2], ?_⟩
    rw [ea, List.findIdx?_cons]
    simp [q3]
  | [], _ :: _, h => by cases h
  | _ :: _, [], h => by cases h
theorem pg_t (ok : XOk G N call fo sc X) {t : NT} {e : Expr} (h : okT N fo sc t e = true) : PG X e (gNT X.K t) := by
  cases t with
  | nm i => exact pg_n ok h
  | tp is =>
    cases e <;> first | (cases h; done) | skip
    obtain ⟨q1, q2, q3⟩ := pg_ns ok (show okNs N fo sc is _ = true from h)
    exact pg_tup ok.calm q1 q2 q3
end

/-! ### what is walked -/
section
variable {K : PySem.W.Frag} {H H0 : Hp} {L L0 : List Addr} {h : MH}
theorem ItR.get {its : Items} {J : It} (j : ItR K H0 L0 its J) (x : Ext K H0 L0 H L) (r : HR K H L h) {i : Nat} {v : Val} (hi : i < its.len) (e : its.get h i = some v) :
    J.go i H ∧ ∀ y H', J.yld i H y H' → HR K H' L h ∧ Ext K H L H' L ∧ RV K H' L v y := by
  cases its with
  | vals xs =>
    rcases j with ⟨a, ys, rfl, hp, hv⟩ | ⟨a, ys, rfl, hp, hv⟩ | ⟨s, rfl, k, rfl⟩
    · have hp' := x.tup _ _ hp
      obtain ⟨y, e1, e2⟩ := (RVs.mono x _ _ hv).get e
      refine ⟨⟨ys, y, hp', e1⟩, fun z H' ⟨e3, q⟩ => ?_⟩
      subst e3
      have := q ys hp'
      rw [e1] at this
      cases this
      exact ⟨r, .refl, e2⟩
    · have hp' := (x.fro _ _ hp).sq
      obtain ⟨y, e1, e2⟩ := (RVs.mono x _ _ hv).get e
      refine ⟨⟨ys, y, hp', e1⟩, fun z H' ⟨e3, q⟩ => ?_⟩
      subst e3
      have := q ys hp'
      rw [e1] at this
      cases this
      exact ⟨r, .refl, e2⟩
    · have e' : (s.map fun c => Val.str [c])[i]? = some v := e
      rw [List.getElem?_map] at e'
      cases es : s[i]? with
      | none => rw [es] at e'; cases e'
      | some c =>
        rw [es] at e'
        cases e'
        obtain ⟨hi, _⟩ := List.getElem?_eq_some_iff.mp es
        refine ⟨by show i < (toS s).length; rw [toS_len]; exact hi, fun z H' ⟨e3, d, e4, e5⟩ => ?_⟩
        subst e3 e5
        have e6 : s[i]? = some d := by simpa [toS] using e4
        rw [es] at e6
        cases e6
        exact ⟨r, .refl, .mk_str (k.one (List.mem_of_getElem? es))⟩
  | live n k =>
    obtain ⟨a, rfl, ea⟩ := j
    have e' : (match seqL h n with | some xs => if xs.length = k then xs[i]? else none | none => none) = some v := e
    cases eq : seqL h n with
    | none => rw [eq] at e'; cases e'
    | some vs =>
      rw [eq] at e'
      have e2 : vs[i]? = some v := by
        by_cases hk : vs.length = k
        · simpa [hk] using e'
        · simp [hk] at e'
      obtain ⟨xs, hp, hv⟩ := r.seq eq (get_pre x.pre ea)
      obtain ⟨y, e3, e4⟩ := hv.get e2
      refine ⟨⟨xs, y, hp, e3⟩, fun z H' ⟨e5, q⟩ => ?_⟩
      subst e5
      have := q xs hp
      rw [e3] at this
      cases this
      exact ⟨r, .refl, e4⟩
  | rng lo n =>
    obtain rfl : J = Itr lo n := j
    cases e
    exact ⟨hi, fun z H' ⟨e1, e2⟩ => by subst e1 e2; exact ⟨r, .refl, .mk_int⟩⟩
  | enm n k => exact j.elim
theorem ItR.fin {its : Items} {J : It} (j : ItR K H0 L0 its J) (x : Ext K H0 L0 H L) (r : HR K H L h) (e : its.fin h = true) : J.stop its.len H := by
  cases its with
  | vals xs =>
    rcases j with ⟨a, ys, rfl, hp, hv⟩ | ⟨a, ys, rfl, hp, hv⟩ | ⟨s, rfl, k, rfl⟩
    · exact ⟨ys, x.tup _ _ hp, by show ys.length ≤ xs.length; rw [hv.length]; exact Nat.le_refl _⟩
    · exact ⟨ys, (x.fro _ _ hp).sq, by show ys.length ≤ xs.length; rw [hv.length]; exact Nat.le_refl _⟩
    · show (toS s).length ≤ (s.map fun c => Val.str [c]).length
      rw [toS_len, List.length_map]
      exact Nat.le_refl _
  | live n k =>
    obtain ⟨a, rfl, ea⟩ := j
    have e' : (match seqL h n with | some xs => decide (xs.length = k) | none => false) = true := e
    cases eq : seqL h n with
    | none => rw [eq] at e'; cases e'
    | some vs =>
      rw [eq] at e'
      have hk : vs.length = k := of_decide_eq_true e'
      obtain ⟨xs, hp, hv⟩ := r.seq eq (get_pre x.pre ea)
      exact ⟨xs, hp, by show xs.length ≤ k; rw [← hv.length, hk]; exact Nat.le_refl _⟩
  | rng lo n =>
    obtain rfl : J = Itr lo n := j
    exact Nat.le_refl _
  | enm n k => exact j.elim
end

section
variable {G : GT} {N : List Str} {call : CallT}
theorem nil_of {e : E} {fo : Option Scope} {sc : Scope} (h : okE G N e fo sc (.es []) = true) : e = .nil := by
  cases e <;> first | rfl | (unfold okE at h; cases h)
theorem s_call {X : Cx} {W : L2.St → XW} {fo : Option Scope} {sc : Scope} {nd : Nd} {f : Nat} {es : E} (ok : XOk G N call fo sc X)
    (ihes : ∀ x, okE G N es fo sc (.es x) = true → SndL X W call es x) (h : okE G N (.call f es) fo sc nd = true) : Snd X W call (.call f es) nd := by
  unfold okE at h
  split at h
  all_goals first | contradiction | (cases h; done) | skip
  rename_i he
  cases he
  simp only [Bool.and_eq_true, decide_eq_true_eq] at h
  rename_i xs pos
  obtain ⟨⟨⟨⟨h1, h2⟩, h3⟩, h4⟩, h5⟩ := h
  have o1 := (odd_of h3).1
  obtain ⟨fa, fd, ps, k, F, hr, hm, hk, hb, hl⟩ := ok.fns _ _ _ h1
  have key : ∀ σ H Q, tV X.K W call (.call f es) σ H Q → tCall (spG X.K call f xs.length) [] E0 (tA X.K W call es) σ H Q := fun σ H Q q => by
    obtain ⟨ρ, hh, L, rs, hrr, q⟩ := q
    refine ⟨ρ, hh, L, rs, hrr, ?_⟩
    refine (outV.bind q).imp fun vs h1' H1 L1 r1 x1 q1 => ?_
    intro us hu
    rw [List.append_nil]
    have hlen : vs.length = xs.length := by
      by_cases c : vs.length = xs.length
      · exact c
      · rw [ok.len _ _ _ vs h1' h1 c] at q1
        exact q1.elim
    refine ⟨by rw [← hu.length]; exact hlen, vs, h1', L1, r1, hu, ?_⟩
    cases e : call f vs h1' with
    | no => rw [e] at q1; exact q1.elim
    | ok v h2 => rw [e] at q1; exact q1
    | ex c as h2 => exact (ok.noex _ _ _ _ _ _ e).elim
  refine SndE.of _ rfl rfl ?_
  cases xs with
  | nil =>
    have e := nil_of h5
    subst e
    exact PE.imp (pe_call0 F hr (sgl ok h2) hm hk hb .nil pass0 o1) fun σ H Q q => tA_nil rfl (key σ H Q q)
  | cons y ys =>
    rw [List.all_cons, Bool.and_eq_true] at h4
    exact PE.imp (pe_call F hr (sgl ok h2) hm hk hb .nil pass0 (ihes _ h5).pa o1 (star_cons h4.1) (star_plain h4.2)) key

theorem few_of {y : Expr} {ys : List Expr} {env : Env} {pos : Pos} (h : argB y ys = true) : noStar y = true ∧ ys.all noStar = true ∧ ((backTo pos (starEach (y :: ys) env)).all (fun x => !x.1) && (backToKw pos (keywordEach [] env)).all (fun x => x.1.isSome)
      && decide ((y :: ys).length + ([] : List Keyword).length + (if ([] : List Keyword).isEmpty then 0 else 1) < 30)) = true := by
  unfold argB at h
  simp only [Bool.and_eq_true, decide_eq_true_eq] at h
  obtain ⟨⟨h1, h2⟩, h3⟩ := h
  refine ⟨h1, h2, ?_⟩
  have e : (backTo pos (starEach (y :: ys) env)).any (·.1) = false := star_plain (by rw [List.all_cons, h1, h2]; rfl)
  have e2 : (backTo pos (starEach (y :: ys) env)).all (fun x => !x.1) = true := by
    rw [List.all_eq_not_any_not]
    simpa using e
  rw [e2]
  simp only [Bool.true_and, Bool.and_eq_true, decide_eq_true_eq]
  refine ⟨rfl, ?_⟩
  simp only [List.length_cons, List.length_nil, List.isEmpty_nil, if_true]
  omega
def mtTy : MI → String
  | .append => "list"
  | .pop => "list"
  | .join => "str"
  | .split => "str"
  | .extend => "list"
theorem ty_of {K : PySem.W.Frag} {H : Hp} {L : List Addr} {h : MH} (r : HR K H L h) {m : MI} {v : Val} {x : V} (hv : RV K H L v x) (e : mtT m h v = true) : tyV K (mtTy m) x H := by
  unfold mtT at e
  split at e
  all_goals first | (cases e; done) | skip
  all_goals first
    | (obtain ⟨rfl, _⟩ := hv.str_of; rfl)
    | (cases eq : seqL h _ with
        | none => rw [eq] at e; cases e
        | some vs => obtain ⟨a, xs, rfl, _, hp, _⟩ := the_seq r hv eq; exact .inl ⟨rfl, xs, hp⟩)
theorem slot_m (m : MI) : PlainAttrs (mtTy m) ∧ Slot (mtTy m) (mtName m) (mtId m) ∧ typeOf (.builtin (mtId m)) = pure (.type "method_descriptor") := by
  cases m
  · exact ⟨PySem.F.plainAttrs_list, PySem.F.slot_list_append, PySem.F.type_list_append⟩
  · exact ⟨PySem.F.plainAttrs_list, PySem.F.slot_list_pop, PySem.F.type_list_pop⟩
  · exact ⟨PySem.F.plainAttrs_str, PySem.F.slot_str_join, PySem.F.type_str_join⟩
  · exact ⟨PySem.F.plainAttrs_str, PySem.F.slot_str_split, PySem.F.type_str_split⟩
  · exact ⟨PySem.F.plainAttrs_list, PySem.F.slot_list_extend, PySem.F.type_list_extend⟩
theorem s_mth {X : Cx} {W : L2.St → XW} {fo : Option Scope} {sc : Scope} {nd : Nd} {m : MI} {o es : E} (ok : XOk G N call fo sc X)
    (iho : ∀ x, okE G N o fo sc (.e x) = true → SndE X W call o x) (ihes : ∀ x, okE G N es fo sc (.es x) = true → SndL X W call es x) (h : okE G N (.mth m o es) fo sc nd = true) : Snd X W call (.mth m o es) nd := by
  obtain ⟨g1, g2, g3⟩ := slot_m m
  have rule : MtR X (mtId m) (rME X.K (mtV m)) := mtr_any fun W => mtr_mt m
  have key : ∀ σ H Q, tV X.K W call (.mth m o es) σ H Q → tBM X.K (mtTy m) (rME X.K (mtV m)) (tV X.K W call o) (tA X.K W call es) σ H Q := fun σ H Q q => by
    obtain ⟨ρ, hh, L, rs, hrr, q⟩ := q
    refine ⟨ρ, hh, L, rs, hrr, ?_⟩
    refine (outV.bind q).imp fun v h1 H1 L1 r1 x1 q1 => ?_
    intro z hz
    split at q1
    · rename_i c
      refine ⟨ty_of r1 hz c, ρ, h1, L1, rs.mono x1, r1, ?_⟩
      refine (outV.bind q1).imp fun vs h2 H2 L2 r2 x2 q2 => ?_
      intro us hu
      exact ⟨W σ, v, vs, h2, L2, r2, RV.mono x2 _ _ hz, hu, q2⟩
    · exact q1.elim
  unfold okE at h
  split at h
  all_goals first | contradiction | (cases h; done) | skip
  · rename_i he
    cases he
    simp only [Bool.and_eq_true, decide_eq_true_eq] at h
    obtain ⟨⟨⟨⟨rfl, h1⟩, h2⟩, h3⟩, h4⟩ := h
    have e := nil_of h4
    subst e
    refine SndE.of _ rfl rfl (PE.imp (pe_bm0 g1 g2 g3 rule (iho _ h3).pe (base_of h1) h2) fun σ H Q q => ?_)
    obtain ⟨ρ, hh, L, rs, hr, q⟩ := key σ H Q q
    refine ⟨ρ, hh, L, rs, hr, ?_⟩
    refine q.imp fun v h1 H1 L1 r1 x1 q1 => ?_
    intro z hz
    obtain ⟨t1, t2⟩ := q1 z hz
    exact ⟨t1, tA_nil rfl t2⟩
  · rename_i he
    cases he
    simp only [Bool.and_eq_true, decide_eq_true_eq] at h
    obtain ⟨⟨⟨⟨⟨rfl, h1⟩, h2⟩, h3⟩, h4⟩, h5⟩ := h
    rename_i x ap y ys p
    obtain ⟨k1, k2, k3⟩ := few_of (env := X.env) (pos := p) h3
    exact SndE.of _ rfl rfl (PE.imp (pe_bm g1 g2 g3 rule (iho _ h4).pe (ihes _ h5).pa (base_of h1) k3 h2 (star_cons k1) (star_plain k2)) key)
end
end Gu
end

section
set_option Elab.async false
set_option linter.all false
set_option maxRecDepth 100000
set_option maxHeartbeats 1000000
/-! Gu11: comprehensions; all expressions. -/
namespace Gu
open PySem PySem.Spec PyProof.Rows L2
section
variable {G : GT} {N : List Str} {call : CallT}
theorem XOk.blk {X : Cx} {fo : Option Scope} {sc : Scope} (ok : XOk G N call fo sc X) (bs : Scope) (s : Shared) (H : Hp) (C : Addr) (cl : List (Str × Addr)) (fp : List Addr) :
    XOk G N call (some bs) (relS bs sc) (X.blk s H bs (compEnvC bs cl C X.env) fp) where
  names := ok.names
  nd := ok.nd
  calm := ok.calm
  sc := by rw [← ok.sc]; rfl
  fn := fun x h => h
  un := ok.un
  hp := PassesOwn.never
  unb := ok.unb
  glb := ok.glb
  len := ok.len
  noex := ok.noex
  fns := ok.fns
theorem lc_len {D : Nat} {t : NT} {ρ : Rho} {cnd : Rho → MH → R Bool} {elt : Rho → MH → R Val} {it : Items} {m i : Nat} {h : MH} :
    lcLoop D t ρ cnd elt it (m + 1) i h = (match it.get h i with
    | some x => match setN t x ρ with
      | some ρ' => match cnd ρ' h with
        | .ok true h0 => match elt ρ' h0 with
          | .ok y h1 => match h1[D]? with
            | some (.lst acc) => if acc.length < sizeLine then lcLoop D t ρ cnd elt it m (i + 1) (h1.set D (.lst (acc ++ [y]))) else .no
            | _ => .no
          | _ => .no
        | .ok false h0 => lcLoop D t ρ cnd elt it m (i + 1) h0
        | _ => .no
      | Option.none => .no
    | Option.none => .no) := rfl
theorem wipe_wipe {own : List Nat} : ∀ {vs : List Nat} {σ : L2.St}, (∀ v ∈ vs, v ∈ own) → L2.wipe (L2.wipe σ vs) own = L2.wipe σ own
  | [], _, _ => rfl
  | v :: vs, σ, h => by
    have e : L2.wipe σ (v :: vs) = (L2.wipe σ vs).set v none := rfl
    rw [e, wipe_in (h v List.mem_cons_self), wipe_wipe fun w hw => h w (List.mem_cons_of_mem _ hw)]
theorem own_snd (N : List Str) (own : List Nat) : (ownP N own).map (·.2) = own := by
  unfold ownP
  rw [List.map_map]
  show own.map (fun i => i) = own
  simp
theorem t_lc {K : PySem.W.Frag} {W : L2.St → XW} {own : List Nat} {t : NT} {it cond elt : E} (ht : ∀ i ∈ ntIs t, i ∈ own) {σ H Q} (q : tV K W call (.lc own t it cond elt) σ H Q) :
    tLc (tI K W call it) (gNT K t) (tT K noW call cond) (tV K noW call elt) own σ H Q := by
  obtain ⟨ρ, h, L, rs, hr, q⟩ := q
  refine ⟨ρ, h, L, rs, hr, ?_⟩
  refine (outV.bind q).imp fun its h1 H1 L1 r1 x1 q1 => ?_
  intro J hJ D hD
  have r2 := r1.add hD (RVs.nil (K := K) (H := H1) (L := L1))
  have x2 : Ext K H1 L1 (upd H1 D (.lst [])) (L1 ++ [D]) := Ext.add hD
  have rs2 : Slots K (upd H1 D (.lst [])) (L1 ++ [D]) (wipeR ρ own) (L2.wipe σ own) := ((rs.mono x1).mono x2).wipe own
  have eD : (L1 ++ [D])[h1.length]? = some D := by rw [← r1.len]; simp
  refine ⟨fun i m H => i + m = its.len ∧ ∃ h' L', HR K H L' h' ∧ Ext K (upd H1 D (.lst [])) (L1 ++ [D]) H L' ∧ outV K (W σ) H L' (lcLoop h1.length t (wipeR ρ own) (ev call cond).t (ev call elt).v its m i h') (fin1 K Q),
    ⟨its.len, by omega, _, _, r2, .refl, q1.from x2⟩, fun i m H3 hW => ?_⟩
  obtain ⟨em, h3, L3, r3, x3, q3⟩ := hW
  cases m with
  | zero =>
    have q3' : outV K (W σ) H3 L3 (if its.fin h3 then .ok (.loc h1.length) h3 else .no) (fin1 K Q) := q3
    split at q3'
    · rename_i c
      have ei : i = its.len := by omega
      subst ei
      refine .inl ⟨hJ.fin (x2.trans x3) r3 c, ?_⟩
      exact q3'.here r3 _ (.mk_loc (get_pre x3.pre eD))
    · exact q3'.elim
  | succ m =>
    rw [lc_len] at q3
    split at q3
    · rename_i x ex
      split at q3
      · rename_i ρ' eρ
        obtain ⟨g1, g2⟩ := hJ.get (x2.trans x3) r3 (by omega) ex
        refine .inr ⟨g1, fun H' => ∃ h' L', HR K H' L' h' ∧ Ext K (upd H1 D (.lst [])) (L1 ++ [D]) H' L' ∧ outV K (W σ) H' L' (lcLoop h1.length t (wipeR ρ own) (ev call cond).t (ev call elt).v its m (i + 1) h') (fin1 K Q),
          fun H' ⟨h', L', a, b, c⟩ => ⟨m, by omega, by omega, h', L', a, b, c⟩, fun y H4 hy => ?_⟩
        obtain ⟨r4, x4, hv⟩ := g2 y H4 hy
        have x04 := (x3.trans x4)
        refine g_set (rs2.mono x04) hv eρ fun σ' rs' hw => ⟨(hw own ht).trans (wipe_wipe fun _ h => h), ?_⟩
        have q4 := q3.from x4
        refine ⟨ρ', h3, L3, rs', r4, ?_⟩
        cases ec : (ev call cond).t ρ' h3 with
        | no => rw [ec] at q4; exact q4.elim
        | ex c as h' => rw [ec] at q4; exact q4.elim
        | ok b h0 =>
          rw [ec] at q4
          intro H5 L5 r5 x5
          cases b with
          | false =>
            exact ⟨h0, L5, r5, x04.trans x5, q4.from x5⟩
          | true =>
            have q5 := q4.from x5
            simp only at q5
            refine ⟨ρ', h0, L5, rs'.mono x5, r5, ?_⟩
            cases ee : (ev call elt).v ρ' h0 with
            | no => rw [ee] at q5; exact q5.elim
            | ex c as h' => rw [ee] at q5; exact q5.elim
            | ok w h6 =>
              rw [ee] at q5
              intro H6 L6 r6 x6 z hz
              have q6 := q5.from x6
              have eD6 : L6[h1.length]? = some D := get_pre ((x04.trans x5).trans x6).pre eD
              simp only at q6
              split at q6
              · rename_i acc ea
                split at q6
                · rename_i c
                  obtain ⟨xs, hp, hs⟩ := r6.at ea eD6
                  refine ⟨xs, hp, by rw [← hs.length]; exact c, _, L6, r6.write eD6 hp (hs.append (RVs.cons hz RVs.nil)), ((x04.trans x5).trans x6).trans (Ext.write hp), q6.from (Ext.write hp)⟩
                · exact q6.elim
              · exact q6.elim
      · exact q3.elim
    · exact q3.elim
theorem s_lc {X : Cx} {W : L2.St → XW} {fo : Option Scope} {sc : Scope} {nd : Nd} {own : List Nat} {t : NT} {it cond elt : E} (ok : XOk G N call fo sc X)
    (ihit : ∀ x, okE G N it fo sc (.e x) = true → SndE X W call it x)
    (ihc : ∀ (X : Cx) (fo : Option Scope) (sc : Scope) xs, XOk G N call fo sc X → okE G N cond fo sc (.es xs) = true → SndL X noW call cond xs)
    (ihe : ∀ (X : Cx) (fo : Option Scope) (sc : Scope) x, XOk G N call fo sc X → okE G N elt fo sc (.e x) = true → SndE X noW call elt x)
    (h : okE G N (.lc own t it cond elt) fo sc nd = true) : Snd X W call (.lc own t it cond elt) nd := by
  unfold okE at h
  split at h
  all_goals first | contradiction | (cases h; done) | skip
  rename_i he
  cases he
  simp only [Bool.and_eq_true, decide_eq_true_eq, List.all_eq_true] at h
  obtain ⟨⟨⟨⟨⟨⟨⟨h1, h2⟩, h3⟩, h4⟩, h5⟩, h6⟩, h7⟩, h8⟩ := h
  rename_i elx tg y ifs bs pos
  refine SndE.of _ rfl rfl (PE.imp (pe_lc (own := ownP N own) (g := gNT X.K t) (tt := tT X.K noW call cond) (te := tV X.K noW call elt) ok.calm (by rw [ok.names]; exact ok.nd) ((ihit _ h5).pi tg)
    (by rw [ok.names, ok.sc]; exact blkOk_by h1) (fun s H C cl fp => pg_t (ok.blk bs s H C cl fp) h3) (fun s H C cl fp => (ihc _ _ _ _ (ok.blk bs s H C cl fp) h7).pts h6) (fun s H C cl fp => (ihe _ _ _ _ (ok.blk bs s H C cl fp) h8).pe) (set_of h4)) fun σ H Q q => ?_)
  rw [own_snd]
  exact t_lc h2 q
/-- which answers are taken for a slice's part -/
theorem den_o : ∀ (e : E), (∃ f, ev call e = Den.ofV f) ∨ (ev call e).o = (fun ρ h => ((ev call e).v ρ h).bind fun x h1 => match x with | .int k => .ok (some k) h1 | _ => .no) ∨ (∀ ρ h, (ev call e).o ρ h = .no) ∨ e = .nil := by
  intro e
  cases e <;> first | exact .inr (.inr (.inr rfl)) | exact .inl ⟨_, rfl⟩ | exact .inr (.inl rfl) | exact .inr (.inr (.inl fun _ _ => rfl))
theorem part_of {X : Cx} {W : L2.St → XW} {fo : Option Scope} {sc : Scope} {e : E} {x : Option Expr} (ih : ∀ nd, XOk G N call fo sc X → okE G N e fo sc nd = true → Snd X W call e nd) (ok : XOk G N call fo sc X)
    (h : okE G N e fo sc (match x with | none => .o none | some z => .e z) = true) : PO X x (tO X.K W call e) := by
  cases x with
  | none => exact ih (.o none) ok h
  | some z =>
    have s : SndE X W call e z := ih (.e z) ok h
    rcases den_o (call := call) e with ⟨f, hf⟩ | ho | ho | rfl
    · exact s.po (by rw [hf]; rfl)
    · exact s.po ho
    · refine ⟨fun pins s' σ H Q I q => ?_⟩
      obtain ⟨ρ, hh, L, rs, hr, q⟩ := q
      rw [ho] at q
      exact q.elim
    · unfold okE at h
      cases h
/-- every expression that passes the look is sound -/
theorem snd : ∀ (e : E) (X : Cx) (W : L2.St → XW) (fo : Option Scope) (sc : Scope) (nd : Nd), XOk G N call fo sc X → okE G N e fo sc nd = true → Snd X W call e nd := by
  intro e
  induction e with
  | nil => intro X W fo sc nd ok h; exact s_nil ok h
  | cons e es ih1 ih2 => intro X W fo sc nd ok h; exact s_cons ok (fun x => ih1 X W fo sc (.e x) ok) (fun x => ih2 X W fo sc (.es x) ok) h
  | var i => intro X W fo sc nd ok h; exact s_var ok h
  | cst v => intro X W fo sc nd ok h; exact s_cst ok h
  | glb x v => intro X W fo sc nd ok h; exact s_glb ok h
  | bin o a b ih1 ih2 => intro X W fo sc nd ok h; exact s_bin ok (fun x => ih1 X W fo sc (.e x) ok) (fun x => ih2 X W fo sc (.e x) ok) h
  | neg a ih1 => intro X W fo sc nd ok h; exact s_neg ok (fun x => ih1 X W fo sc (.e x) ok) h
  | cmp o a b ih1 ih2 => intro X W fo sc nd ok h; exact s_cmp ok (fun x => ih1 X W fo sc (.e x) ok) (fun x => ih2 X W fo sc (.e x) ok) h
  | and_ a b ih1 ih2 => intro X W fo sc nd ok h; exact s_and ok (fun x => ih1 X W fo sc (.e x) ok) (fun x => ih2 X W fo sc (.e x) ok) h
  | or_ a b ih1 ih2 => intro X W fo sc nd ok h; exact s_or ok (fun x => ih1 X W fo sc (.e x) ok) (fun x => ih2 X W fo sc (.e x) ok) h
  | not_ a ih1 => intro X W fo sc nd ok h; exact s_not ok (fun x => ih1 X W fo sc (.e x) ok) h
  | ite c a b ih0 ih1 ih2 => intro X W fo sc nd ok h; exact s_ite ok (fun x => ih0 X W fo sc (.e x) ok) (fun x => ih1 X W fo sc (.e x) ok) (fun x => ih2 X W fo sc (.e x) ok) h
  | tup es ih1 => intro X W fo sc nd ok h; exact s_tup ok (fun x => ih1 X W fo sc (.es x) ok) h
  | lst es ih1 => intro X W fo sc nd ok h; exact s_lst ok (fun x => ih1 X W fo sc (.es x) ok) h
  | idx a b ih1 ih2 => intro X W fo sc nd ok h; exact s_idx ok (fun x => ih1 X W fo sc (.e x) ok) (fun x => ih2 X W fo sc (.e x) ok) h
  | slc a lo hi ih0 ih1 ih2 => intro X W fo sc nd ok h; exact s_slc ok (fun x => ih0 X W fo sc (.e x) ok) (fun x => part_of (ih1 X W fo sc) ok) (fun x => part_of (ih2 X W fo sc) ok) h
  | call f es ih1 => intro X W fo sc nd ok h; exact s_call ok (fun x => ih1 X W fo sc (.es x) ok) h
  | blt b es ih1 => intro X W fo sc nd ok h; exact s_blt ok (fun x => ih1 X W fo sc (.es x) ok) h
  | isi t a ih1 => intro X W fo sc nd ok h; exact s_isi ok (fun x => ih1 X W fo sc (.e x) ok) h
  | mth m o es ih1 ih2 => intro X W fo sc nd ok h; exact s_mth ok (fun x => ih1 X W fo sc (.e x) ok) (fun x => ih2 X W fo sc (.es x) ok) h
  | rng1 a ih1 => intro X W fo sc nd ok h; exact s_rng1 ok (fun x => ih1 X W fo sc (.e x) ok) h
  | rng2 a b ih1 ih2 => intro X W fo sc nd ok h; exact s_rng2 ok (fun x => ih1 X W fo sc (.e x) ok) (fun x => ih2 X W fo sc (.e x) ok) h
  | lc own t it cond elt ih1 ih2 ih3 => intro X W fo sc nd ok h; exact s_lc ok (fun x => ih1 X W fo sc (.e x) ok) (fun X fo sc xs ok => ih2 X noW fo sc (.es xs) ok) (fun X fo sc x ok => ih3 X noW fo sc (.e x) ok) h
end
end Gu
end

section
set_option Elab.async false
set_option linter.all false
set_option maxRecDepth 100000
set_option maxHeartbeats 1000000
/-! Gu12: statements. -/
namespace Gu
open PySem PySem.Spec PyProof.Rows L2
inductive Ns where
  | one (s : Stmt) | many (ss : List Stmt)
def noTup : Expr → Bool
  | .Tuple .. => false
  | _ => true
/-- name = a comprehension: the machine's own form, or the plain one -/
def lcSw (sc : Scope) (x : Str) (p : Pos) : Expr → Bool
  | .ListComp _ _ s pv => (sc.names.lookup x == some .local) && (p.line == pv.line) && !(s.names.any fun (n, k) => n == x && (k == .local || k == .cell))
  | _ => false
def plainComp : Expr → Bool
  | .SetComp .. => false
  | .DictComp .. => false
  | _ => true
def okB (G : GT) (N : List Str) (sc : Scope) : S → Ns → Bool
  | .skip, .many [] => true
  | .skip, .one (.Pass _) => true
  | .seq a b, .many (s :: r) => okB G N sc a (.one s) && okB G N sc b (.many r)
  | .asg (.nt (.nm i)) e, .one (.Assign [.Name x p] v _) => okN N none sc i (.Name x p) && okE G N e none sc (.e v) && plainComp v
  | .asg (.nt (.tp is)) e, .one (.Assign [.Tuple es k p] v _) => okT N none sc (.tp is) (.Tuple es k p) && noTup v && okE G N e none sc (.e v)
  | .asg (.sub o i) e, .one (.Assign [.Subscript x y _] v _) => noSl y && okE G N o none sc (.e x) && okE G N i none sc (.e y) && okE G N e none sc (.e v)
  | .aug i op e, .one (.AugAssign (.Name x p) op' v _) => decide (op = op') && okN N none sc i (.Name x p) && !oddN x && okE G N e none sc (.e v)
  | .expr e, .one (.Expr v _) => noComp v && okE G N e none sc (.e v)
  | .ret e, .one (.Return (some v) _) => okE G N e none sc (.e v)
  | .retn, .one (.Return none _) => true
  | .ite c a b, .one (.If x ys zs _) => okE G N c none sc (.e x) && okB G N sc a (.many ys) && okB G N sc b (.many zs)
  | .whl c b, .one (.While x ys [] _) => okE G N c none sc (.e x) && okB G N sc b (.many ys)
  | .for_ t it b, .one (.For tg x ys [] _) => okT N none sc t tg && noSet x && okE G N it none sc (.e x) && okB G N sc b (.many ys)
  | .brk, .one (.Break _) => true
  | .cnt, .one (.Continue _) => true
  | .never, _ => true
  | _, _ => false

/-! ### outcomes -/
def outS (K : PySem.W.Frag) (W : L2.St → XW) (D : Ends) (H : Hp) (L : List Addr) : RS → Prop
  | .no => False
  | .nx ρ' h' => ∀ σ' H' L', Slots K H' L' ρ' σ' → HR K H' L' h' → Ext K H L H' L' → D.nx σ' H'
  | .bk ρ' h' => ∀ σ' H' L', Slots K H' L' ρ' σ' → HR K H' L' h' → Ext K H L H' L' → D.bk σ' H'
  | .ct ρ' h' => ∀ σ' H' L', Slots K H' L' ρ' σ' → HR K H' L' h' → Ext K H L H' L' → D.ct σ' H'
  | .rt v h' => ∀ x H' L', HR K H' L' h' → Ext K H L H' L' → RV K H' L' v x → D.rt x H'
  | .ex c as ρ' h' => ∀ σ' H' L', Slots K H' L' ρ' σ' → HR K H' L' h' → Ext K H L H' L' → W σ' c as h' H' L'
section
variable {K : PySem.W.Frag} {W : L2.St → XW} {D D' : Ends} {H H' : Hp} {L L' : List Addr} {ρ : Rho} {σ : L2.St} {h : MH}
theorem outS.from (x : Ext K H L H' L') {r : RS} (q : outS K W D H L r) : outS K W D H' L' r := by
  cases r with
  | no => exact q
  | nx ρ' h' => exact fun σ' H'' L'' a b c => q σ' H'' L'' a b (x.trans c)
  | bk ρ' h' => exact fun σ' H'' L'' a b c => q σ' H'' L'' a b (x.trans c)
  | ct ρ' h' => exact fun σ' H'' L'' a b c => q σ' H'' L'' a b (x.trans c)
  | rt v h' => exact fun z H'' L'' a b c => q z H'' L'' a (x.trans b) c
  | ex c as ρ' h' => exact fun σ' H'' L'' a b c => q σ' H'' L'' a b (x.trans c)
theorem outS.toS {α : Type} {r : R α} {f : α → MH → RS} (rs : Slots K H L ρ σ) (q : outS K W D H L (r.toS ρ f)) : outV K (W σ) H L r fun a h1 H1 L1 => outS K W D H1 L1 (f a h1) := by
  cases r with
  | no => exact q
  | ok a h1 => exact fun H1 L1 r1 x1 => outS.from x1 (show outS K W D H L (f a h1) from q)
  | ex c as h1 => exact fun H1 L1 r1 x1 => q σ H1 L1 (rs.mono x1) r1 x1
theorem outS.hereN {ρ' : Rho} (q : outS K W D H L (.nx ρ' h)) (r : HR K H L h) {σ' : L2.St} (rs : Slots K H L ρ' σ') : D.nx σ' H := q σ' H L rs r .refl
end
def tSt (K : PySem.W.Frag) (W : L2.St → XW) (call : CallT) (s : S) : TS := fun D σ H => ∃ ρ h L, Slots K H L ρ σ ∧ HR K H L h ∧ outS K W D H L (evS call s ρ h)
def SndS (X : Cx) (W : L2.St → XW) (call : CallT) (s : S) : Ns → Prop
  | .one st => PS X st (tSt X.K W call s)
  | .many sts => PSs X sts (tSt X.K W call s)
section
variable {G : GT} {N : List Str} {call : CallT} {X : Cx} {W : L2.St → XW} {sc : Scope}
theorem PS.imp {st : Stmt} {t t' : TS} (h : PS X st t) (i : ∀ D σ H, t' D σ H → t D σ H) : PS X st t' := ⟨fun pins s σ H D I q => h.run pins s σ H D I (i _ _ _ q)⟩
theorem PSs.imp {st : List Stmt} {t t' : TS} (h : PSs X st t) (i : ∀ D σ H, t' D σ H → t D σ H) : PSs X st t' := ⟨fun pins s σ H D I q => h.run pins s σ H D I (i _ _ _ q)⟩
theorem swE {e : Expr} {tg : Option Expr} {n : Nat} {env : Env} (h : noComp e = true) : swapsWith e tg n env = pure false := by
  cases e <;> first | rfl | (cases h; done)
theorem swLc {elt : Expr} {gs : List Comprehension} {s : Scope} {pv p : Pos} {x : Str} {n : Nat} {env : Env} (hk : env.scope.kind = .function) :
    swapsWith (.ListComp elt gs s pv) (some (.Name x p)) n env = pure (lcSw env.scope x p (.ListComp elt gs s pv)) := by
  have hb : env.blockKind = .function := by unfold Env.blockKind; rw [hk]; rfl
  unfold swapsWith lcSw
  simp only [hb, Expr.pos]
  rfl
theorem swStore {es : List Expr} {k : Nat} {p : Pos} {v : Expr} {env : Env} (h : noTup v = true) : swappedStores [.Tuple es k p] v env = pure none := by
  cases v <;> first | rfl | (cases h; done)

section
variable (ok : XOk G N call none sc X)
include ok
theorem e_of {e : E} {x : Expr} (h : okE G N e none sc (.e x) = true) : SndE X W call e x := snd e X W none sc (.e x) ok h
theorem ss_name {i : Nat} {e : E} {x : Str} {p pos : Pos} {v : Expr} (h1 : okN N none sc i (.Name x p) = true) (h2 : okE G N e none sc (.e v) = true) (h3 : plainComp v = true) (hk : sc.kind = .function) :
    PS X (.Assign [.Name x p] v pos) (tSt X.K W call (.asg (.nt (.nm i)) e)) := by
  have hn : X.N.Nodup := by rw [ok.names]; exact ok.nd
  have h1' : (decide (N[i]? = some x) && stB none sc x) = true := h1
  simp only [Bool.and_eq_true, decide_eq_true_eq] at h1'
  obtain ⟨q1, q2⟩ := stB_of ok h1'.2
  have hi : X.N[i]? = some x := by rw [ok.names]; exact h1'.1
  have fin : ∀ D σ H, tSt X.K W call (.asg (.nt (.nm i)) e) D σ H → tAsg (tV X.K W call e) (gName i) D σ H := fun D σ H q => by
    obtain ⟨ρ, h, L, rs, hr, q⟩ := q
    refine ⟨ρ, h, L, rs, hr, ?_⟩
    refine (outS.toS rs q).imp fun v h1 H1 L1 r1 x1 q1 => ?_
    intro z hz
    exact outS.hereN q1 r1 ((rs.mono x1).set i hz)
  cases v <;> first | (cases h3; done) | (exact PS.imp (ps_set hn hi q1 (e_of ok h2).pe rfl q2) fin) | skip
  rename_i elt gs s pv
  cases hc : lcSw sc x p (.ListComp elt gs s pv) with
  | false =>
    refine PS.imp (ps_set hn hi q1 (e_of ok h2).pe ?_ q2) fin
    rw [swLc (by rw [ok.sc]; exact hk), ok.sc, hc]
  | true =>
    have hl : X.env.scope.names.lookup x = some .local := by
      have hc' : ((sc.names.lookup x == some .local) && (p.line == pv.line) && !(s.names.any fun (n, k) => n == x && (k == .local || k == .cell))) = true := hc
      rw [Bool.and_eq_true, Bool.and_eq_true] at hc'
      rw [ok.sc]
      exact eq_of_beq hc'.1.1
    have hsw : ∀ l, swapsWith (.ListComp elt gs s pv) (some (.Name x p)) l X.env = pure true := fun l => by rw [swLc (by rw [ok.sc]; exact hk), ok.sc, hc]
    unfold okE at h2
    split at h2
    all_goals first | contradiction | (rename_i he; cases he; done) | (cases h2; done) | skip
    rename_i he
    cases he
    simp only [Bool.and_eq_true, decide_eq_true_eq, List.all_eq_true] at h2
    obtain ⟨⟨⟨⟨⟨⟨⟨g1, g2⟩, g3⟩, g4⟩, g5⟩, g6⟩, g7⟩, g8⟩ := h2
    rename_i own t it cond elE _ _ _
    refine PS.imp (ps_setLc (own := ownP N own) (g := gNT X.K t) (tt := tT X.K noW call cond) (te := tV X.K noW call elE) ok.calm hn hi hl (hsw _) ((e_of ok (W := W) g5).pi _)
      (by rw [ok.names, ok.sc]; exact blkOk_by g1) (fun s H C cl fp => pg_t (ok.blk _ s H C cl fp) g3) (fun s H C cl fp => (snd cond _ noW _ _ (.es _) (ok.blk _ s H C cl fp) g7).pts g6) (fun s H C cl fp => (snd elE _ noW _ _ (.e _) (ok.blk _ s H C cl fp) g8).pe) (set_of g4)) fun D σ H q => ?_
    rw [own_snd]
    exact t_lc g2 (fin D σ H q)
omit ok in
theorem ip_f {op : Operator} {f : Int → Int → Int} (h : augF op = some f) : PIp X op (ipI f) := by
  cases op <;> first | (cases h; done) | skip
  · cases h; exact ip_add
  · cases h; exact ip_sub
theorem ss_aug {i : Nat} {op : Operator} {e : E} {x : Str} {p pos : Pos} {v : Expr} (h1 : okN N none sc i (.Name x p) = true) (h2 : okE G N e none sc (.e v) = true) :
    PS X (.AugAssign (.Name x p) op v pos) (tSt X.K W call (.aug i op e)) := by
  have hn : X.N.Nodup := by rw [ok.names]; exact ok.nd
  have h1' : (decide (N[i]? = some x) && stB none sc x) = true := h1
  simp only [Bool.and_eq_true, decide_eq_true_eq] at h1'
  obtain ⟨q1, q2⟩ := stB_of ok h1'.2
  have hi : X.N[i]? = some x := by rw [ok.names]; exact h1'.1
  cases ef : augF op with
  | none =>
    refine ⟨fun pins s σ H D I q => ?_⟩
    obtain ⟨ρ, h, L, rs, hr, q⟩ := q
    have q : outS X.K W D H L (match (ρ[i]?).join, augF op with
      | some (.int a), some f => ((ev call e).v ρ h).toS ρ fun y h1 => match y with
        | .int b => .nx (ρ.set i (some (.int (f a b)))) h1
        | _ => .no
      | _, _ => .no) := q
    rw [ef] at q
    split at q
    · rename_i z; cases z
    · exact q.elim
  | some f =>
    refine PS.imp (ps_aug hn hi q1 (e_of ok (W := W) h2).pe (ip_f ef) q2) fun D σ H q => ?_
    obtain ⟨ρ, h, L, rs, hr, q⟩ := q
    have q : outS X.K W D H L (match (ρ[i]?).join, augF op with
      | some (.int a), some f => ((ev call e).v ρ h).toS ρ fun y h1 => match y with
        | .int b => .nx (ρ.set i (some (.int (f a b)))) h1
        | _ => .no
      | _, _ => .no) := q
    split at q
    · rename_i a f' e1 e2
      rw [ef] at e2
      cases e2
      have e2 : ρ[i]? = some (some (.int a)) := by
        cases e : ρ[i]? with
        | none => rw [e] at e1; cases e1
        | some u => rw [e] at e1; have e1' : u = some (.int a) := e1; rw [e1']
      obtain ⟨z, ez, hz⟩ := rs.at_ _ _ e2
      obtain rfl := hz.int_of
      refine ⟨_, ez, ρ, h, L, rs, hr, ?_⟩
      refine (outS.toS rs q).imp fun v h1 H1 L1 r1 x1 q1 => ?_
      intro w hw
      split at q1
      · obtain rfl := hw.int_of
        exact ⟨_, _, rfl, rfl, outS.hereN q1 r1 ((rs.mono x1).set i .mk_int)⟩
      · exact q1.elim
    · exact q.elim
end
end
end Gu
end

section
set_option Elab.async false
set_option linter.all false
set_option maxRecDepth 100000
set_option maxHeartbeats 1000000
/-! Gu13: all statements are sound. -/
namespace Gu
open PySem PySem.Spec PyProof.Rows L2
section
variable {G : GT} {N : List Str} {call : CallT} {X : Cx} {W : L2.St → XW} {sc : Scope}
def whB (c : Rho → MH → R Bool) (b : Rho → MH → RS) (n : Nat) (ρ : Rho) (h1 : MH) : Bool → RS := fun x => if x then
      (match b ρ h1 with
      | .nx ρ' h' => whl c b n ρ' h'
      | .ct ρ' h' => whl c b n ρ' h'
      | .bk ρ' h' => .nx ρ' h'
      | r => r) else .nx ρ h1
theorem whl_s {c : Rho → MH → R Bool} {b : Rho → MH → RS} {n : Nat} {ρ : Rho} {h : MH} : whl c b (n + 1) ρ h = (c ρ h).toS ρ fun x h1 => whB c b n ρ h1 x := rfl
theorem forL_s {t : NT} {b : Rho → MH → RS} {it : Items} {m i : Nat} {ρ : Rho} {h : MH} : forL t b it (m + 1) i ρ h = (match it.get h i with
    | some x => match setN t x ρ with
      | some ρ1 => match b ρ1 h with
        | .nx ρ' h' => forL t b it m (i + 1) ρ' h'
        | .ct ρ' h' => forL t b it m (i + 1) ρ' h'
        | .bk ρ' h' => .nx ρ' h'
        | r => r
      | Option.none => .no
    | Option.none => .no) := rfl
/-- a turn's outcome, handed on -/
theorem turn_out {K : PySem.W.Frag} {W : L2.St → XW} {D : Ends} {H : Hp} {L : List Addr} {r : RS} {f : Rho → MH → RS} {N : L2.St → Hp → Prop}
    (q : outS K W D H L (match r with
      | .nx ρ' h' => f ρ' h'
      | .ct ρ' h' => f ρ' h'
      | .bk ρ' h' => .nx ρ' h'
      | r => r))
    (hN : ∀ ρ' h' σ' H' L', Slots K H' L' ρ' σ' → HR K H' L' h' → Ext K H L H' L' → outS K W D H' L' (f ρ' h') → N σ' H') :
    outS K W { D with nx := N, ct := N, bk := D.nx } H L r := by
  cases r with
  | no => exact q
  | nx ρ' h' => exact fun σ' H' L' a b c => hN ρ' h' σ' H' L' a b c (outS.from c q)
  | ct ρ' h' => exact fun σ' H' L' a b c => hN ρ' h' σ' H' L' a b c (outS.from c q)
  | bk ρ' h' => exact q
  | rt v h' => exact q
  | ex c as ρ' h' => exact q
theorem s_whl {x : Expr} {ys : List Stmt} {pos : Pos} {c : E} {b : S} (ok : XOk G N call none sc X) (hc : SndE X W call c x) (hb : PSs X ys (tSt X.K W call b)) : PS X (.While x ys [] pos) (tSt X.K W call (.whl c b)) := by
  refine PS.imp (ps_while ok.hp hc.pt hb) fun D σ H q => ?_
  obtain ⟨ρ, h, L, rs, hr, q⟩ := q
  refine ⟨fun m σ H => ∃ ρ h L, Slots X.K H L ρ σ ∧ HR X.K H L h ∧ outS X.K W D H L (whl (ev call c).t (evS call b) m ρ h), ⟨manyTurns, ρ, h, L, rs, hr, q⟩, fun m σ1 H1 hW => ?_⟩
  obtain ⟨ρ1, h1, L1, rs1, r1, q1⟩ := hW
  cases m with
  | zero => exact q1.elim
  | succ m =>
    rw [whl_s] at q1
    refine ⟨ρ1, h1, L1, rs1, r1, ?_⟩
    refine (outS.toS rs1 q1).imp fun v h2 H2 L2 r2 x2 q2 => ?_
    cases v with
    | false => exact outS.hereN q2 r2 (rs1.mono x2)
    | true =>
      rw [if_pos rfl]
      refine ⟨fun σ' H' => ∃ ρ h L, Slots X.K H' L ρ σ' ∧ HR X.K H' L h ∧ outS X.K W D H' L (whl (ev call c).t (evS call b) m ρ h), fun σ' H' hn => ⟨m, Nat.lt_succ_self m, hn⟩, ρ1, h2, L2, rs1.mono x2, r2, ?_⟩
      exact turn_out (f := fun ρ' h' => whl (ev call c).t (evS call b) m ρ' h') q2 fun ρ' h' σ' H' L' a b' c' q' => ⟨ρ', h', L', a, b', q'⟩
theorem s_for {tg x : Expr} {ys : List Stmt} {pos : Pos} {t : NT} {it : E} {b : S} (ok : XOk G N call none sc X) (ht : okT N none sc t tg = true) (hs : noSet x = true) (hi : SndE X W call it x) (hb : PSs X ys (tSt X.K W call b)) :
    PS X (.For tg x ys [] pos) (tSt X.K W call (.for_ t it b)) := by
  refine PS.imp (ps_for ok.hp ok.calm (hi.pi tg) (pg_t ok ht) hb (set_of hs)) fun D σ H q => ?_
  obtain ⟨ρ, h, L, rs, hr, q⟩ := q
  refine ⟨ρ, h, L, rs, hr, ?_⟩
  refine (outS.toS rs q).imp fun its h1 H1 L1 r1 x1 q1 => ?_
  intro J hJ
  refine ⟨fun i m σ H => i + m = its.len ∧ ∃ ρ h L, Slots X.K H L ρ σ ∧ HR X.K H L h ∧ Ext X.K H1 L1 H L ∧ outS X.K W D H L (forL t (evS call b) its m i ρ h), ⟨its.len, by omega, ρ, h1, L1, rs.mono x1, r1, .refl, q1⟩, fun i m σ3 H3 hW => ?_⟩
  obtain ⟨em, ρ3, h3, L3, rs3, r3, x3, q3⟩ := hW
  cases m with
  | zero =>
    have q3' : outS X.K W D H3 L3 (if its.fin h3 then .nx ρ3 h3 else .no) := q3
    split at q3'
    · rename_i c
      have ei : i = its.len := by omega
      subst ei
      exact .inl ⟨hJ.fin x3 r3 c, outS.hereN q3' r3 rs3⟩
    · exact q3'.elim
  | succ m =>
    rw [forL_s] at q3
    split at q3
    · rename_i v ex
      split at q3
      · rename_i ρ' eρ
        obtain ⟨g1, g2⟩ := hJ.get x3 r3 (by omega) ex
        refine .inr ⟨g1, fun σ' H' => ∃ ρ h L, Slots X.K H' L ρ σ' ∧ HR X.K H' L h ∧ Ext X.K H1 L1 H' L ∧ outS X.K W D H' L (forL t (evS call b) its m (i + 1) ρ h), fun σ' H' hn => ⟨m, by omega, by omega, hn⟩, fun y H4 hy => ?_⟩
        obtain ⟨r4, x4, hv⟩ := g2 y H4 hy
        refine g_set (rs3.mono x4) hv eρ fun σ' rs' _ => ⟨ρ', h3, L3, rs', r4, ?_⟩
        exact turn_out (f := fun ρ' h' => forL t (evS call b) its m (i + 1) ρ' h') (outS.from x4 q3) fun ρ' h' σ' H' L' a b' c' q' => ⟨ρ', h', L', a, b', (x3.trans x4).trans c', q'⟩
      · exact q3.elim
    · exact q3.elim
theorem swTup {es : List Expr} {k n : Nat} {p : Pos} {v : Expr} {env : Env} : swapsWithSole [.Tuple es k p] v n env = pure false := by
  show swapsWith v (some (.Tuple es k p)) n env = _
  unfold swapsWith
  cases v <;> rfl
theorem swSub {a b : Expr} {n : Nat} {p : Pos} {v : Expr} {env : Env} : swapsWithSole [.Subscript a b p] v n env = pure false := by
  show swapsWith v (some (.Subscript a b p)) n env = _
  unfold swapsWith
  cases v <;> rfl
theorem swSubS {a b : Expr} {p : Pos} {v : Expr} {env : Env} : swappedStores [.Subscript a b p] v env = pure none := by
  unfold swappedStores
  cases v <;> rfl
theorem never_one {st : Stmt} : PS X st (tSt X.K W call .never) := PS.imp ps_never fun D σ H q => by
  obtain ⟨ρ, h, L, rs, hr, q⟩ := q
  exact q
theorem never_many {st : List Stmt} : PSs X st (tSt X.K W call .never) := PSs.imp pss_never fun D σ H q => by
  obtain ⟨ρ, h, L, rs, hr, q⟩ := q
  exact q
theorem sndS (ok : XOk G N call none sc X) (hk : sc.kind = .function) : ∀ (s : S) (ns : Ns), okB G N sc s ns = true → SndS X W call s ns := by
  intro s
  induction s with
  | skip =>
    intro ns h
    unfold okB at h
    split at h
    all_goals first | contradiction | (cases h; done) | skip
    · exact PSs.imp pss_nil fun D σ H ⟨ρ, h, L, rs, hr, q⟩ => outS.hereN q hr rs
    · exact PS.imp ps_pass fun D σ H ⟨ρ, h, L, rs, hr, q⟩ => outS.hereN q hr rs
  | seq a b iha ihb =>
    intro ns h
    unfold okB at h
    split at h
    all_goals first | contradiction | (cases h; done) | skip
    rename_i he
    cases he
    rw [Bool.and_eq_true] at h
    refine PSs.imp (pss_cons (iha _ h.1) (ihb _ h.2)) fun D σ H ⟨ρ, h, L, rs, hr, q⟩ => ⟨ρ, h, L, rs, hr, ?_⟩
    have q : outS X.K W D H L ((evS call a ρ h).andThen (evS call b)) := q
    cases e : evS call a ρ h with
    | no => rw [e] at q; exact q
    | nx ρ' h' => rw [e] at q; exact fun σ' H' L' u v w => ⟨ρ', h', L', u, v, outS.from w q⟩
    | bk ρ' h' => rw [e] at q; exact q
    | ct ρ' h' => rw [e] at q; exact q
    | rt v h' => rw [e] at q; exact q
    | ex c as ρ' h' => rw [e] at q; exact q
  | asg t e =>
    intro ns h
    unfold okB at h
    split at h
    all_goals first | contradiction | (cases h; done) | skip
    · rename_i he
      cases he
      simp only [Bool.and_eq_true] at h
      exact ss_name ok h.1.1 h.1.2 h.2 hk
    · rename_i he
      cases he
      simp only [Bool.and_eq_true] at h
      obtain ⟨⟨h1, h2⟩, h3⟩ := h
      refine PS.imp (ps_asg (e_of ok (W := W) h3).pe (pg_t ok h1) swTup (swStore h2)) fun D σ H ⟨ρ, h, L, rs, hr, q⟩ => ⟨ρ, h, L, rs, hr, ?_⟩
      refine (outS.toS rs q).imp fun v h1 H1 L1 r1 x1 q1 => ?_
      intro z hz
      simp only at q1
      split at q1
      · rename_i ρ' eρ
        exact g_set (rs.mono x1) hz eρ fun σ' rs' _ => outS.hereN q1 r1 rs'
      · exact q1.elim
    · rename_i he
      cases he
      simp only [Bool.and_eq_true] at h
      obtain ⟨⟨⟨h1, h2⟩, h3⟩, h4⟩ := h
      refine PS.imp (ps_asg (g := gSub _ _ (fun o i v H Q => ∃ W, rSet X.K W o i v H Q)) (e_of ok (W := W) h4).pe (pg_sub (e_of ok (W := W) h2).pe (e_of ok (W := W) h3).pe (fun pins s σ H o i v ov iv u Q I a b c ⟨W, q⟩ => pset_set pins s σ H o i v ov iv u Q I a b c q) ?_) swSub swSubS) fun D σ H ⟨ρ, h, L, rs, hr, q⟩ => ⟨ρ, h, L, rs, hr, ?_⟩
      · intro v
        rename_i xx yy _ _ _
        cases yy <;> first | rfl | (cases h1; done)
      · refine (outS.toS rs q).imp fun v h1 H1 L1 r1 x1 q1 => ?_
        intro z hz
        refine ⟨ρ, h1, L1, rs.mono x1, r1, ?_⟩
        refine (outS.toS (rs.mono x1) q1).imp fun o h2 H2 L2 r2 x2 q2 => ?_
        intro zo hzo
        have rs2 := (rs.mono x1).mono x2
        refine ⟨ρ, h2, L2, rs2, r2, ?_⟩
        refine (outS.toS rs2 q2).imp fun i h3 H3 L3 r3 x3 q3 => ?_
        intro zi hzi
        have rs3 := rs2.mono x3
        refine ⟨W σ, o, i, v, h3, L3, r3, RV.mono x3 _ _ hzo, hzi, RV.mono x3 _ _ (RV.mono x2 _ _ hz), ?_⟩
        exact (outS.toS rs3 q3).imp fun _ h4 H4 L4 r4 x4 q4 => outS.hereN q4 r4 (rs3.mono x4)
  | aug i o e =>
    intro ns h
    unfold okB at h
    split at h
    all_goals first | contradiction | (cases h; done) | skip
    rename_i he
    cases he
    simp only [Bool.and_eq_true, decide_eq_true_eq] at h
    obtain ⟨⟨⟨rfl, h1⟩, h2⟩, h3⟩ := h
    exact ss_aug ok h1 h3
  | expr e =>
    intro ns h
    unfold okB at h
    split at h
    all_goals first | contradiction | (cases h; done) | skip
    rename_i he
    cases he
    simp only [Bool.and_eq_true] at h
    refine PS.imp (ps_expr (e_of ok (W := W) h.2).pe (swE h.1)) fun D σ H ⟨ρ, h, L, rs, hr, q⟩ => ⟨ρ, h, L, rs, hr, ?_⟩
    exact (outS.toS rs q).imp fun v h1 H1 L1 r1 x1 q1 => fun z hz => outS.hereN q1 r1 (rs.mono x1)
  | ret e =>
    intro ns h
    unfold okB at h
    split at h
    all_goals first | contradiction | (cases h; done) | skip
    rename_i he
    cases he
    refine PS.imp (ps_ret (e_of ok (W := W) h).pe) fun D σ H ⟨ρ, h, L, rs, hr, q⟩ => ⟨ρ, h, L, rs, hr, ?_⟩
    exact (outS.toS rs q).imp fun v h1 H1 L1 r1 x1 q1 => fun z hz => q1 z _ _ r1 .refl hz
  | retn =>
    intro ns h
    unfold okB at h
    split at h
    all_goals first | contradiction | (cases h; done) | skip
    exact PS.imp ps_retN fun D σ H ⟨ρ, h, L, rs, hr, q⟩ => q _ _ _ hr .refl .mk_non
  | ite c a b iha ihb =>
    intro ns h
    unfold okB at h
    split at h
    all_goals first | contradiction | (cases h; done) | skip
    rename_i he
    cases he
    simp only [Bool.and_eq_true] at h
    refine PS.imp (ps_if (e_of ok (W := W) h.1.1).pt (iha _ h.1.2) (ihb _ h.2)) fun D σ H ⟨ρ, h, L, rs, hr, q⟩ => ⟨ρ, h, L, rs, hr, ?_⟩
    refine (outS.toS rs q).imp fun v h1 H1 L1 r1 x1 q1 => ?_
    cases v with
    | true => exact ⟨ρ, h1, L1, rs.mono x1, r1, q1⟩
    | false => exact ⟨ρ, h1, L1, rs.mono x1, r1, q1⟩
  | whl c b ihb =>
    intro ns h
    unfold okB at h
    split at h
    all_goals first | contradiction | (cases h; done) | skip
    rename_i he
    cases he
    simp only [Bool.and_eq_true] at h
    exact s_whl ok (e_of ok h.1) (ihb _ h.2)
  | for_ t it b ihb =>
    intro ns h
    unfold okB at h
    split at h
    all_goals first | contradiction | (cases h; done) | skip
    rename_i he
    cases he
    simp only [Bool.and_eq_true] at h
    exact s_for ok h.1.1.1 h.1.1.2 (e_of ok h.1.2) (ihb _ h.2)
  | brk =>
    intro ns h
    unfold okB at h
    split at h
    all_goals first | contradiction | (cases h; done) | skip
    exact PS.imp ps_break fun D σ H ⟨ρ, h, L, rs, hr, q⟩ => q _ _ _ rs hr .refl
  | cnt =>
    intro ns h
    unfold okB at h
    split at h
    all_goals first | contradiction | (cases h; done) | skip
    exact PS.imp ps_continue fun D σ H ⟨ρ, h, L, rs, hr, q⟩ => q _ _ _ rs hr .refl
  | never =>
    intro ns h
    cases ns with
    | one st => exact never_one
    | many sts => exact never_many
end
end Gu
end

section
set_option Elab.async false
set_option linter.all false
set_option maxRecDepth 100000
set_option maxHeartbeats 1000000
/-! Gu14: the defs of a module; a law's end. -/
namespace Gu
open PySem PySem.Spec PyProof.Rows L2
/-- a def of the text with its form in the small language -/
structure Ent (G : GT) where
  x : Str
  a : Arguments
  body : List Stmt
  sc : Scope
  N : List Str
  ps : List Str
  F : Fn
  scp : FnScope N ps sc
  np : ps.length = F.np
  nn : N.length = F.nn
  chk : okB G N sc F.body (.many body) = true
  bind : ∀ (kV doc pm : Value) (an : Option Addr) (cdv ct : Value) (us : List Value), us.length = ps.length → bindArgs (PySem.W.fnOf x x a body sc .none kV doc pm an cdv ct) ⟨us, []⟩ = pure (ps.zip us)
def Ent.d {G : GT} (e : Ent G) : He.DefD := ⟨(e.x, none), e.x, e.x, e.a, e.body, e.sc, [], []⟩
theorem callK_len {ft : List Fn} {k f : Nat} {F : Fn} {gvs : List Val} {h : MH} (e : ft[f]? = some F) (hn : gvs.length ≠ F.np) : callK ft k f gvs h = .no := by
  cases k with
  | zero => rfl
  | succ k =>
    unfold callK
    rw [e]
    show (if gvs.length = F.np ∧ F.np ≤ F.nn then _ else R.no) = R.no
    rw [if_neg fun c => hn c.1]
theorem callK_noex {ft : List Fn} {k f : Nat} {gvs : List Val} {h : MH} {c : Nat} {as : List Val} {h' : MH} : callK ft k f gvs h ≠ .ex c as h' := by
  cases k with
  | zero => exact fun z => nomatch z
  | succ k =>
    unfold callK
    intro z
    split at z
    · split at z
      · split at z <;> cases z
      · cases z
    · cases z
section
variable {P : Program} {w : World} {K : PySem.W.Frag} {mg : Str → Option Value} {base : Heap} {G : GT} {ents : List (Ent G)}
/-- what the head tells -/
structure Told (K : PySem.W.Frag) (mg : Str → Option Value) (G : GT) (ents : List (Ent G)) : Prop where
  hG : G.fns = ents.map fun e => (e.x, e.F.np)
  fn : ∀ e ∈ ents, ∃ fa fd, FunD K e.x e.x e.a e.body e.sc [] [] fa fd ∧ mg e.x = some (.ref fa)
  unb : ∀ x ∈ bnames, mg x = none
  glb : ∀ x v, G.gcs.lookup x = some v → ∃ u y, mg x = some u ∧ RelV y u ∧ ∀ H L, RV K H L v y
theorem start_slots {H : Hp} {L : List Addr} {gvs : List Val} {vs : List V} (h : RVs K H L gvs vs) (N : List Str) (n : Nat) (hn : n = N.length - vs.length) : Slots K H L (gvs.map some ++ List.replicate n none) (L2.start N vs) := by
  subst hn
  unfold L2.start
  refine ⟨by simp [h.length], fun i v e => ?_⟩
  by_cases hi : i < gvs.length
  · rw [List.getElem?_append_left (by simpa using hi), List.getElem?_map] at e
    cases e1 : gvs[i]? with
    | none => rw [e1] at e; cases e
    | some w =>
      rw [e1] at e
      cases e
      obtain ⟨y, e2, e3⟩ := h.get e1
      refine ⟨y, ?_, e3⟩
      rw [List.getElem?_append_left (by rw [List.length_map, ← h.length]; exact hi), List.getElem?_map, e2]
      rfl
  · rw [List.getElem?_append_right (by simpa using hi), List.getElem?_replicate] at e
    split at e <;> cases e
theorem ent_of (T : Told K mg G ents) {f : Nat} {x : Str} {np : Nat} (h : G.fns[f]? = some (x, np)) : ∃ e : Ent G, ents[f]? = some e ∧ e.x = x ∧ e.F.np = np := by
  rw [T.hG, List.getElem?_map] at h
  cases e : ents[f]? with
  | none => rw [e] at h; cases h
  | some e' =>
    rw [e] at h
    have h' : (e'.x, e'.F.np) = (x, np) := Option.some.inj h
    cases h'
    exact ⟨e', rfl, rfl, rfl⟩
theorem ent_ok (T : Told K mg G ents) : ∀ (k f : Nat) (e : Ent G) (fa : Addr) (fd : FuncData), ents[f]? = some e → FunD K e.x e.x e.a e.body e.sc [] [] fa fd → mg e.x = some (.ref fa) →
    FnOk P w K mg base CX0 k fa fd e.ps (spG K (callK (ents.map (·.F)) k) f e.F.np) := by
  intro k
  induction k with
  | zero =>
    intro f e fa fd e1 F hm
    refine ⟨fun vs H Q E q => by rw [q.1, e.np], fun A outer s H args us vs Q E _ _ _ _ q => ?_⟩
    obtain ⟨_, gvs, h, L, _, _, q⟩ := q
    exact q.elim
  | succ k ih =>
    intro f e fa fd e1 F hm
    refine F.ok e.scp (fun vs H Q E q => by rw [q.1, e.np]) fun cdv A outer s H vs Q E hr q => ?_
    have ok : XOk G e.N (callK (ents.map (·.F)) k) none e.sc (cxOf CX0 P w K mg base e.N e.x e.sc fa cdv A outer s H E).nox :=
      { names := rfl, nd := e.scp.nd, calm := rfl, sc := rfl, fn := fun _ _ => rfl
        un := by have := hr.un; show (A.deeper _).units + 164 < cLine; omega
        hp := PassesOwn.never
        unb := T.unb
        glb := T.glb
        len := fun f x np gvs h hf hn => by
          obtain ⟨e', e2, _, rfl⟩ := ent_of T hf
          exact callK_len (F := e'.F) (by rw [List.getElem?_map, e2]; rfl) hn
        noex := fun _ _ _ _ _ _ => callK_noex
        fns := fun f x np hf => by
          obtain ⟨e', e2, rfl, rfl⟩ := ent_of T hf
          obtain ⟨fa', fd', F', m'⟩ := T.fn e' (List.mem_of_getElem? e2)
          exact ⟨fa', fd', e'.ps, k, ih f e' fa' fd' e2 F' m', hr, m', F'.kp, F'.bindsN e'.bind, e'.np⟩ }
    refine ⟨tSt K noW (callK (ents.map (·.F)) k) e.F.body, PSs.nox (show PSs _ _ (tSt K noW (callK (ents.map (·.F)) k) e.F.body) from sndS (W := noW) ok e.scp.kind e.F.body (.many e.body) e.chk), ?_⟩
    obtain ⟨hl, gvs, h, L, hr', hv, q⟩ := q
    have eF : (ents.map (·.F))[f]? = some e.F := by rw [List.getElem?_map, e1]; rfl
    have hlen : gvs.length = e.F.np := by rw [hv.length]; exact hl
    have q2 : outV K (noW []) H L (match evS (callK (ents.map (·.F)) k) e.F.body (gvs.map some ++ List.replicate (e.F.nn - gvs.length) Option.none) h with
        | .rt v h' => .ok v h'
        | .nx _ h' => .ok .non h'
        | _ => .no) (fin1 K Q) := by
      unfold callK at q
      rw [eF] at q
      have hle : e.F.np ≤ e.F.nn := by
        have := congrArg List.length e.scp.pre
        rw [List.length_take] at this
        rw [← e.np, ← e.nn]
        omega
      have q' : outV K (noW []) H L (if gvs.length = e.F.np ∧ e.F.np ≤ e.F.nn then (match evS (callK (ents.map (·.F)) k) e.F.body (gvs.map some ++ List.replicate (e.F.nn - gvs.length) Option.none) h with
        | .rt v h' => .ok v h'
        | .nx _ h' => .ok .non h'
        | _ => .no) else .no) (fin1 K Q) := q
      rw [if_pos ⟨hlen, hle⟩] at q'
      exact q'
    refine ⟨_, h, L, start_slots hv e.N (e.F.nn - gvs.length) (by rw [← e.nn, hv.length]), hr', ?_⟩
    cases ev' : evS (callK (ents.map (·.F)) k) e.F.body (gvs.map some ++ List.replicate (e.F.nn - gvs.length) Option.none) h with
    | no => rw [ev'] at q2; exact q2
    | nx ρ' h' => rw [ev'] at q2; exact fun σ' H' L' _ a b => q2 H' L' a b _ .mk_non
    | rt v h' => rw [ev'] at q2; exact fun z H' L' a b c => q2 H' L' a b z c
    | bk ρ' h' => rw [ev'] at q2; exact q2.elim
    | ct ρ' h' => rw [ev'] at q2; exact q2.elim
    | ex c as ρ' h' => rw [ev'] at q2; exact q2.elim
/-- the law's promise at the script -/
theorem law_sp {k f : Nat} {call : CallT} {n : Nat} (hlaw : ∀ ns : List Int, ns.length ≤ n → ∃ h', call f [.fro (ns.map Val.int)] [] = .ok (.bl true) h') (H : Hp) (a : Addr) (ns : List Int) (hl : ns.length ≤ n) (ho : Only H) (hs : SqL K H a (ns.map V.int)) :
    spG K call f 1 [.ref a] H (fun v _ => v = .bl true) (fun _ _ _ => False) := by
  have hf : SqF K H a (ns.map V.int) := by
    rcases hs with (h | ⟨o, h⟩) | h
    · rcases ho a with e | ⟨o, xs, e⟩
      · rw [e] at h; cases h
      · rw [e] at h; cases h
    · exact .inl ⟨o, h⟩
    · exact .inr h
  have hi : ∀ ns : List Int, RVs K H [] (ns.map Val.int) (ns.map V.int) := fun ns => by
    induction ns with
    | nil => exact RVs.nil
    | cons n r ih => exact RVs.cons .mk_int ih
  obtain ⟨h', e⟩ := hlaw ns hl
  refine ⟨rfl, [.fro (ns.map Val.int)], [], [], ⟨rfl, .nil, fun n o e => by simp at e⟩, RVs.cons (.mk_fro hf (hi ns)) RVs.nil, ?_⟩
  rw [e]
  exact fun H' L' _ _ z hz => hz.bl_of
end
end Gu
end

section
set_option Elab.async false
set_option linter.all false
set_option maxRecDepth 100000
set_option maxHeartbeats 1000000
/-! Gu15: the head's facts. -/
namespace Gu
open PySem PySem.Spec PyProof.Rows L2
def toDv : Val → He.Dv
  | .bl b => .bl b
  | .int i => .int i
  | .str s => .str (toS s)
  | _ => .non
def constOk : Val → Bool
  | .non => true
  | .bl _ => true
  | .int _ => true
  | .str s => s.all (fun c => decide (c < 1114112)) && decide (s.length ≤ sizeLine)
  | _ => false
theorem constOk_str {s : List Nat} (h : constOk (.str s) = true) : okS s := by
  have h' : (s.all (fun c => decide (c < 1114112)) && decide (s.length ≤ sizeLine)) = true := h
  simp only [Bool.and_eq_true, decide_eq_true_eq, List.all_eq_true] at h'
  exact h'
section
variable {K : PySem.W.Frag} {H : Hp} {L : List Addr}
theorem rv_const {v : Val} (h : constOk v = true) : RV K H L v ((toDv v).v K) := by
  cases v with
  | non => exact .mk_non
  | bl _ => exact .mk_bl
  | int _ => exact .mk_int
  | str s => exact .mk_str (constOk_str h)
  | tup _ => cases h
  | fro _ => cases h
  | loc _ => cases h
theorem rvs_const : ∀ {vs : List Val}, vs.all constOk = true → RVs K H L vs ((vs.map toDv).map (He.Dv.v K))
  | [], _ => RVs.nil
  | v :: vs, h => by
    rw [List.all_cons, Bool.and_eq_true] at h
    exact RVs.cons (rv_const h.1) (rvs_const h.2)
end
def faC (p : Str × Val) : He.Fa := match p.2 with
  | .str s => .str p.1 (toS s)
  | .int i => .int p.1 i
  | _ => .glo p.1
def exC (K : PySem.W.Frag) (p : Str × Val) : Bool := match p.2 with
  | .str s => constOk (.str s)
  | .int _ => true
  | .tup vs => He.tupB K p.1 (vs.map toDv) && vs.all constOk
  | _ => false
def faOf (G : GT) (ents : List (Ent G)) : List He.Fa := (ents.map fun e => He.Fa.glo e.x) ++ (bnames.map He.Fa.free ++ G.gcs.map faC)
def exOf (G : GT) (K : PySem.W.Frag) : Bool := G.gcs.all (exC K)
theorem mem_of_lookup' {α : Type} {x : Str} {v : α} : ∀ {l : List (Str × α)}, l.lookup x = some v → (x, v) ∈ l
  | (y, w) :: r, h => by
    rw [List.lookup_cons] at h
    cases e : x == y with
    | true =>
      rw [e] at h
      cases h
      rw [eq_of_beq e]
      exact List.mem_cons_self
    | false =>
      rw [e] at h
      exact List.mem_cons_of_mem _ (mem_of_lookup' h)
theorem told_of {G : GT} {ents : List (Ent G)} {w : World} {h : Heap} {K : PySem.W.Frag} {mg : Str → Option Value} (hG : G.fns = ents.map fun e => (e.x, e.F.np))
    (c : He.SaysX (faOf G ents) (ents.map Ent.d) [] [] (exOf G) w h K) (X : K.In h) (N : h.Ns mainGlobals mg) : Told K mg G ents where
  hG := hG
  fn := fun e he => by
    obtain ⟨fd, F⟩ := He.SaysD.defs c.t.d (List.mem_map.mpr ⟨e, he, rfl⟩ : e.d ∈ ents.map Ent.d)
    have g := He.SaysD.facts c.t.d (show He.Fa.glo e.x ∈ faOf G ents from List.mem_append_left _ (List.mem_map.mpr ⟨e, he, rfl⟩))
    exact ⟨He.ga K e.x, fd, F, He.glo_ok X N g⟩
  unb := fun x hx => He.free_ok X N (He.SaysD.facts c.t.d (show He.Fa.free x ∈ faOf G ents from List.mem_append_right _ (List.mem_append_left _ (List.mem_map.mpr ⟨x, hx, rfl⟩))))
  glb := fun x v hv => by
    have hm := mem_of_lookup' hv
    have f := He.SaysD.facts c.t.d (show faC (x, v) ∈ faOf G ents from List.mem_append_right _ (List.mem_append_right _ (List.mem_map.mpr ⟨(x, v), hm, rfl⟩)))
    have ex := List.all_eq_true.mp c.more _ hm
    cases v with
    | str s =>
      obtain ⟨t, e⟩ := He.str_ok X N f
      exact ⟨_, .str (toS s), e, ⟨t, rfl⟩, fun H L => .mk_str (constOk_str ex)⟩
    | int i =>
      obtain ⟨t, e⟩ := He.int_ok X N f
      exact ⟨_, .int i, e, ⟨t, rfl⟩, fun H L => .mk_int⟩
    | tup vs =>
      have ex' : (He.tupB K x (vs.map toDv) && vs.all constOk) = true := ex
      rw [Bool.and_eq_true] at ex'
      exact ⟨_, .ref (He.ga K x), He.glo_ok X N f, rfl, fun H L => .mk_tup (He.tupB_ok ex'.1 H) (rvs_const ex'.2)⟩
    | non => cases ex
    | bl _ => cases ex
    | fro _ => cases ex
    | loc _ => cases ex
end Gu
end

section
set_option Elab.async false
set_option linter.all false
set_option maxRecDepth 100000
set_option maxHeartbeats 4000000
/-! the text's defs in the small language (printed by gen.py) -/
namespace Gu
open PySem
abbrev c_WORDS : Val := (.tup [(.str [97, 110, 100]), (.str [97, 110, 100, 97, 108, 115, 111]), (.str [99, 97, 115, 101]), (.str [100, 97, 116, 97, 116, 121, 112, 101]), (.str [100, 105, 118]), (.str [101, 108, 115, 101]), (.str [101, 110, 100]), (.str [101, 120, 99, 101, 112, 116, 105, 111, 110]), (.str [102, 110]), (.str [102, 117, 110]), (.str [102, 117, 110, 99, 116, 111, 114]), (.str [104, 97, 110, 100, 108, 101]), (.str [105, 102]), (.str [105, 110]), (.str [108, 101, 116]), (.str [109, 111, 100]), (.str [111, 102]), (.str [111, 112, 101, 110]), (.str [111, 114, 101, 108, 115, 101]), (.str [114, 97, 105, 115, 101]), (.str [115, 105, 103]), (.str [115, 105, 103, 110, 97, 116, 117, 114, 101]), (.str [115, 116, 114, 117, 99, 116]), (.str [115, 116, 114, 117, 99, 116, 117, 114, 101]), (.str [116, 104, 101, 110]), (.str [116, 121, 112, 101]), (.str [118, 97, 108]), (.str [119, 104, 101, 114, 101])])
abbrev c_LONG_SIGNS : Val := (.tup [(.str [58, 62]), (.str [61, 62]), (.str [45, 62]), (.str [58, 58]), (.str [60, 61]), (.str [62, 61]), (.str [60, 62]), (.str [58, 61])])
abbrev c_SHORT_SIGNS : Val := (.str [40, 41, 91, 93, 44, 59, 58, 61, 124, 95, 46, 42, 43, 45, 94, 60, 62, 33, 126])
abbrev c_LOW : Val := (.str [97, 98, 99, 100, 101, 102, 103, 104, 105, 106, 107, 108, 109, 110, 111, 112, 113, 114, 115, 116, 117, 118, 119, 120, 121, 122])
abbrev c_HIGH : Val := (.str [65, 66, 67, 68, 69, 70, 71, 72, 73, 74, 75, 76, 77, 78, 79, 80, 81, 82, 83, 84, 85, 86, 87, 88, 89, 90])
abbrev c_DIGITS : Val := (.str [48, 49, 50, 51, 52, 53, 54, 55, 56, 57])
abbrev c_FOLLOWING : Val := (.str [97, 98, 99, 100, 101, 102, 103, 104, 105, 106, 107, 108, 109, 110, 111, 112, 113, 114, 115, 116, 117, 118, 119, 120, 121, 122, 65, 66, 67, 68, 69, 70, 71, 72, 73, 74, 75, 76, 77, 78, 79, 80, 81, 82, 83, 84, 85, 86, 87, 88, 89, 90, 48, 49, 50, 51, 52, 53, 54, 55, 56, 57, 95, 39])
abbrev i_read_tokens : Nat := 0
abbrev i_skip_space : Nat := 1
abbrev i_skip_comment : Nat := 2
abbrev i_read_token : Nat := 3
abbrev i_end_of_word : Nat := 4
abbrev i_read_name : Nat := 5
abbrev i_read_number : Nat := 6
abbrev i_read_variable : Nat := 7
abbrev i_read_string : Nat := 8
abbrev i_escaped : Nat := 9
abbrev i__law_start : Nat := 10
abbrev i__law_fill : Nat := 11
abbrev i__law_take : Nat := 12
abbrev i__law_words : Nat := 13
abbrev i__law_identifier : Nat := 14
abbrev i__law_digits : Nat := 15
abbrev i__law_string : Nat := 16
abbrev i__law_quoted : Nat := 17
abbrev i__law_token : Nat := 18
abbrev i__law_comment : Nat := 19
abbrev i__law_gap : Nat := 20
abbrev i__law_apart : Nat := 21
abbrev i__law_same : Nat := 22
abbrev i_law : Nat := 23
def w_read_tokens_1 : S :=
 (.seq (.asg (.nt (.tp [3, 4])) (.call i_read_token (.cons (.var 0) (.cons (.var 2) .nil))))
 (.seq (.expr (.mth .append (.var 1) (.cons (.var 3) .nil)))
 (.seq (.asg (.nt (.nm 2)) (.call i_skip_space (.cons (.var 0) (.cons (.var 4) .nil))))
 .skip)))
def r_read_tokens_2 : S :=
 (.seq (.ret (.var 1))
 .skip)
def r_read_tokens_3 : S :=
 (.seq (.asg (.nt (.nm 1)) (.lst .nil))
 (.seq (.asg (.nt (.nm 2)) (.call i_skip_space (.cons (.var 0) (.cons (.cst (.int 0)) .nil))))
 (.seq (.whl (.cmp .Lt (.var 2) (.blt .len (.cons (.var 0) .nil)))
   w_read_tokens_1)
 r_read_tokens_2)))
def b_read_tokens : S :=
 (.seq (.ite (.cmp .Gt (.blt .len (.cons (.var 0) .nil)) (.cst (.int 4000)))
   (.seq .never
   .skip)
   .skip)
 r_read_tokens_3)
def w_skip_space_1 : S :=
 (.seq (.ite (.or_ (.cmp .Eq (.idx (.var 0) (.var 1)) (.cst (.str [32]))) (.cmp .Eq (.idx (.var 0) (.var 1)) (.cst (.str [10]))))
   (.seq (.aug 1 .Add (.cst (.int 1)))
   .skip)
   (.seq (.ite (.cmp .Eq (.slc (.var 0) (.var 1) (.bin .Add (.var 1) (.cst (.int 2)))) (.cst (.str [40, 42])))
     (.seq (.asg (.nt (.nm 1)) (.call i_skip_comment (.cons (.var 0) (.cons (.var 1) .nil))))
     .skip)
     (.seq (.ret (.var 1))
     .skip))
   .skip))
 .skip)
def r_skip_space_2 : S :=
 (.seq (.ret (.var 1))
 .skip)
def b_skip_space : S :=
 (.seq (.whl (.cmp .Lt (.var 1) (.blt .len (.cons (.var 0) .nil)))
   w_skip_space_1)
 r_skip_space_2)
def w_skip_comment_1 : S :=
 (.seq (.ite (.cmp .Eq (.slc (.var 0) (.var 3) (.bin .Add (.var 3) (.cst (.int 2)))) (.cst (.str [40, 42])))
   (.seq (.aug 2 .Add (.cst (.int 1)))
   (.seq (.aug 3 .Add (.cst (.int 2)))
   .skip))
   (.seq (.ite (.cmp .Eq (.slc (.var 0) (.var 3) (.bin .Add (.var 3) (.cst (.int 2)))) (.cst (.str [42, 41])))
     (.seq (.aug 2 .Sub (.cst (.int 1)))
     (.seq (.aug 3 .Add (.cst (.int 2)))
     (.seq (.ite (.cmp .Eq (.var 2) (.cst (.int 0)))
       (.seq (.ret (.var 3))
       .skip)
       .skip)
     .skip)))
     (.seq (.aug 3 .Add (.cst (.int 1)))
     .skip))
   .skip))
 .skip)
def r_skip_comment_2 : S :=
 (.seq .never
 .skip)
def b_skip_comment : S :=
 (.seq (.asg (.nt (.nm 2)) (.cst (.int 1)))
 (.seq (.asg (.nt (.nm 3)) (.bin .Add (.var 1) (.cst (.int 2))))
 (.seq (.whl (.cmp .Lt (.var 3) (.blt .len (.cons (.var 0) .nil)))
   w_skip_comment_1)
 r_skip_comment_2)))
def r_read_token_1 : S :=
 (.seq .never
 .skip)
def r_read_token_2 : S :=
 (.seq (.ite (.cmp .In (.var 2) (.glb "SHORT_SIGNS" c_SHORT_SIGNS))
   (.seq (.ret (.tup (.cons (.tup (.cons (.cst (.str [115, 105, 103, 110])) (.cons (.var 2) (.cons (.var 1) .nil)))) (.cons (.bin .Add (.var 1) (.cst (.int 1))) .nil))))
   .skip)
   .skip)
 r_read_token_1)
def r_read_token_3 : S :=
 (.seq (.ite (.cmp .In (.slc (.var 0) (.var 1) (.bin .Add (.var 1) (.cst (.int 2)))) (.glb "LONG_SIGNS" c_LONG_SIGNS))
   (.seq (.ret (.tup (.cons (.tup (.cons (.cst (.str [115, 105, 103, 110])) (.cons (.slc (.var 0) (.var 1) (.bin .Add (.var 1) (.cst (.int 2)))) (.cons (.var 1) .nil)))) (.cons (.bin .Add (.var 1) (.cst (.int 2))) .nil))))
   .skip)
   .skip)
 r_read_token_2)
def r_read_token_4 : S :=
 (.seq (.ite (.cmp .Eq (.var 2) (.cst (.str [39])))
   (.seq (.ret (.call i_read_variable (.cons (.var 0) (.cons (.var 1) .nil))))
   .skip)
   .skip)
 r_read_token_3)
def r_read_token_5 : S :=
 (.seq (.ite (.cmp .Eq (.var 2) (.cst (.str [34])))
   (.seq (.ret (.call i_read_string (.cons (.var 0) (.cons (.var 1) .nil))))
   .skip)
   .skip)
 r_read_token_4)
def r_read_token_6 : S :=
 (.seq (.ite (.cmp .In (.var 2) (.glb "DIGITS" c_DIGITS))
   (.seq (.ret (.call i_read_number (.cons (.var 0) (.cons (.var 1) .nil))))
   .skip)
   .skip)
 r_read_token_5)
def b_read_token : S :=
 (.seq (.asg (.nt (.nm 2)) (.idx (.var 0) (.var 1)))
 (.seq (.ite (.or_ (.cmp .In (.var 2) (.glb "LOW" c_LOW)) (.cmp .In (.var 2) (.glb "HIGH" c_HIGH)))
   (.seq (.ret (.call i_read_name (.cons (.var 0) (.cons (.var 1) .nil))))
   .skip)
   .skip)
 r_read_token_6))
def w_end_of_word_1 : S :=
 (.seq (.aug 1 .Add (.cst (.int 1)))
 .skip)
def r_end_of_word_2 : S :=
 (.seq (.ret (.var 1))
 .skip)
def b_end_of_word : S :=
 (.seq (.whl (.and_ (.cmp .Lt (.var 1) (.blt .len (.cons (.var 0) .nil))) (.cmp .In (.idx (.var 0) (.var 1)) (.glb "FOLLOWING" c_FOLLOWING)))
   w_end_of_word_1)
 r_end_of_word_2)
def r_read_name_1 : S :=
 (.seq (.ret (.tup (.cons (.tup (.cons (.cst (.str [104, 105, 103, 104])) (.cons (.var 3) (.cons (.var 1) .nil)))) (.cons (.var 2) .nil))))
 .skip)
def r_read_name_2 : S :=
 (.seq (.ite (.cmp .In (.idx (.var 3) (.cst (.int 0))) (.glb "LOW" c_LOW))
   (.seq (.ret (.tup (.cons (.tup (.cons (.cst (.str [108, 111, 119])) (.cons (.var 3) (.cons (.var 1) .nil)))) (.cons (.var 2) .nil))))
   .skip)
   .skip)
 r_read_name_1)
def r_read_name_3 : S :=
 (.seq (.ite (.cmp .In (.var 3) (.glb "WORDS" c_WORDS))
   (.seq (.ret (.tup (.cons (.tup (.cons (.cst (.str [119, 111, 114, 100])) (.cons (.var 3) (.cons (.var 1) .nil)))) (.cons (.var 2) .nil))))
   .skip)
   .skip)
 r_read_name_2)
def b_read_name : S :=
 (.seq (.asg (.nt (.nm 2)) (.call i_end_of_word (.cons (.var 0) (.cons (.var 1) .nil))))
 (.seq (.asg (.nt (.nm 3)) (.slc (.var 0) (.var 1) (.var 2)))
 (.seq (.ite (.cmp .Gt (.blt .len (.cons (.var 3) .nil)) (.cst (.int 24)))
   (.seq .never
   .skip)
   .skip)
 r_read_name_3)))
def w_read_number_1 : S :=
 (.seq (.ite (.cmp .NotIn (.var 4) (.glb "DIGITS" c_DIGITS))
   (.seq .never
   .skip)
   .skip)
 .skip)
def r_read_number_2 : S :=
 (.seq (.ret (.tup (.cons (.tup (.cons (.cst (.str [105, 110, 116])) (.cons (.var 3) (.cons (.var 1) .nil)))) (.cons (.var 2) .nil))))
 .skip)
def r_read_number_3 : S :=
 (.seq (.ite (.or_ (.cmp .Gt (.blt .len (.cons (.var 3) .nil)) (.cst (.int 18))) (.and_ (.cmp .Gt (.blt .len (.cons (.var 3) .nil)) (.cst (.int 1))) (.cmp .Eq (.idx (.var 3) (.cst (.int 0))) (.cst (.str [48])))))
   (.seq .never
   .skip)
   .skip)
 r_read_number_2)
def b_read_number : S :=
 (.seq (.asg (.nt (.nm 2)) (.call i_end_of_word (.cons (.var 0) (.cons (.var 1) .nil))))
 (.seq (.asg (.nt (.nm 3)) (.slc (.var 0) (.var 1) (.var 2)))
 (.seq (.for_ (.nm 4) (.var 3)
   w_read_number_1)
 r_read_number_3)))
def r_read_variable_1 : S :=
 (.seq (.ret (.tup (.cons (.tup (.cons (.cst (.str [118, 97, 114])) (.cons (.idx (.var 0) (.bin .Add (.var 1) (.cst (.int 1)))) (.cons (.var 1) .nil)))) (.cons (.var 2) .nil))))
 .skip)
def b_read_variable : S :=
 (.seq (.asg (.nt (.nm 2)) (.call i_end_of_word (.cons (.var 0) (.cons (.bin .Add (.var 1) (.cst (.int 1))) .nil))))
 (.seq (.ite (.or_ (.cmp .NotEq (.var 2) (.bin .Add (.var 1) (.cst (.int 2)))) (.cmp .NotIn (.idx (.var 0) (.bin .Add (.var 1) (.cst (.int 1)))) (.glb "LOW" c_LOW)))
   (.seq .never
   .skip)
   .skip)
 r_read_variable_1))
def r_read_string_1 : S :=
 (.seq (.ite (.cmp .NotEq (.idx (.var 0) (.var 3)) (.cst (.str [92])))
   (.seq (.expr (.mth .append (.var 2) (.cons (.idx (.var 0) (.var 3)) .nil)))
   (.seq (.aug 3 .Add (.cst (.int 1)))
   .skip))
   (.seq (.expr (.mth .append (.var 2) (.cons (.call i_escaped (.cons (.var 0) (.cons (.var 3) .nil))) .nil)))
   (.seq (.aug 3 .Add (.cst (.int 2)))
   .skip)))
 .skip)
def w_read_string_2 : S :=
 (.seq (.ite (.cmp .Eq (.idx (.var 0) (.var 3)) (.cst (.str [10])))
   (.seq .never
   .skip)
   .skip)
 r_read_string_1)
def r_read_string_3 : S :=
 (.seq (.ret (.tup (.cons (.tup (.cons (.cst (.str [115, 116, 114, 105, 110, 103])) (.cons (.mth .join (.cst (.str [])) (.cons (.var 2) .nil)) (.cons (.var 1) .nil)))) (.cons (.bin .Add (.var 3) (.cst (.int 1))) .nil))))
 .skip)
def r_read_string_4 : S :=
 (.seq (.ite (.cmp .GtE (.var 3) (.blt .len (.cons (.var 0) .nil)))
   (.seq .never
   .skip)
   .skip)
 r_read_string_3)
def b_read_string : S :=
 (.seq (.asg (.nt (.nm 2)) (.lst .nil))
 (.seq (.asg (.nt (.nm 3)) (.bin .Add (.var 1) (.cst (.int 1))))
 (.seq (.whl (.and_ (.cmp .Lt (.var 3) (.blt .len (.cons (.var 0) .nil))) (.cmp .NotEq (.idx (.var 0) (.var 3)) (.cst (.str [34]))))
   w_read_string_2)
 r_read_string_4)))
def r_escaped_1 : S :=
 (.seq .never
 .skip)
def r_escaped_2 : S :=
 (.seq (.ite (.or_ (.cmp .Eq (.var 2) (.cst (.str [92]))) (.cmp .Eq (.var 2) (.cst (.str [34]))))
   (.seq (.ret (.var 2))
   .skip)
   .skip)
 r_escaped_1)
def b_escaped : S :=
 (.seq (.asg (.nt (.nm 2)) (.slc (.var 0) (.bin .Add (.var 1) (.cst (.int 1))) (.bin .Add (.var 1) (.cst (.int 2)))))
 (.seq (.ite (.cmp .Eq (.var 2) (.cst (.str [110])))
   (.seq (.ret (.cst (.str [10])))
   .skip)
   .skip)
 r_escaped_2))
def b__law_start : S :=
 (.seq (.ret (.lst (.cons (.lc [1] (.nm 1) (.slc (.var 0) .nil (.cst (.int 63))) .nil (.blt .int (.cons (.var 1) .nil))) (.cons (.cst (.int 0)) (.cons (.cst (.int 0)) (.cons (.cst (.int 0)) .nil))))))
 .skip)
def r__law_fill_1 : S :=
 (.seq (.ite (.cmp .GtE (.var 1) (.bin .Pow (.cst (.int 10)) (.cst (.int 18))))
   (.seq (.ret (.var 1))
   .skip)
   .skip)
 .skip)
def r__law_fill_2 : S :=
 (.seq (.asg (.nt (.nm 1)) (.bin .Mod (.blt .int (.cons (.bin .Add (.bin .Mult (.var 1) (.cst (.int 48271))) (.bin .Mult (.idx (.var 0) (.cst (.int 3))) (.cst (.int 69621)))) .nil)) (.cst (.int 2147483647))))
 (.seq (.ret (.bin .Add (.bin .FloorDiv (.blt .int (.cons (.bin .Add (.bin .Add (.bin .Mult (.var 1) (.var 1)) (.bin .Mult (.idx (.var 0) (.cst (.int 3))) (.cst (.int 7919)))) (.cst (.int 11))) .nil)) (.cst (.int 64))) (.cst (.int 36028797018963968))))
 .skip))
def r__law_fill_3 : S :=
 (.seq (.ite (.and_ (.idx (.var 0) (.cst (.int 0))) (.cmp .GtE (.idx (.var 0) (.cst (.int 1))) (.blt .len (.cons (.idx (.var 0) (.cst (.int 0))) .nil))))
   (.seq (.asg (.nt (.nm 1)) (.bin .Add (.var 1) (.bin .Mod (.blt .int (.cons (.idx (.idx (.var 0) (.cst (.int 0))) (.neg (.cst (.int 1)))) .nil)) (.cst (.int 1000003)))))
   .skip)
   .skip)
 r__law_fill_2)
def b__law_fill : S :=
 (.seq (.asg (.sub (.var 0) (.cst (.int 3))) (.bin .Add (.idx (.var 0) (.cst (.int 3))) (.cst (.int 1))))
 (.seq (.asg (.nt (.nm 1)) (.bin .Add (.bin .Mult (.idx (.var 0) (.cst (.int 3))) (.cst (.int 69621))) (.cst (.int 12345))))
 (.seq (.ite (.cmp .Lt (.idx (.var 0) (.cst (.int 1))) (.blt .len (.cons (.idx (.var 0) (.cst (.int 0))) .nil)))
   (.seq (.asg (.nt (.nm 1)) (.idx (.idx (.var 0) (.cst (.int 0))) (.idx (.var 0) (.cst (.int 1)))))
   (.seq (.asg (.sub (.var 0) (.cst (.int 1))) (.bin .Add (.idx (.var 0) (.cst (.int 1))) (.cst (.int 1))))
   (.seq (.ite (.cmp .Lt (.var 1) (.cst (.int 0)))
     (.seq (.asg (.nt (.nm 1)) (.bin .Sub (.neg (.cst (.int 1))) (.var 1)))
     .skip)
     .skip)
   r__law_fill_1)))
   .skip)
 r__law_fill_3)))
def r__law_take_1 : S :=
 (.seq (.asg (.nt (.nm 2)) (.bin .Mod (.blt .int (.cons (.idx (.var 0) (.cst (.int 2))) .nil)) (.var 1)))
 (.seq (.asg (.sub (.var 0) (.cst (.int 2))) (.bin .FloorDiv (.idx (.var 0) (.cst (.int 2))) (.var 1)))
 (.seq (.ret (.var 2))
 .skip)))
def b__law_take : S :=
 (.seq (.ite (.cmp .Lt (.idx (.var 0) (.cst (.int 2))) (.var 1))
   (.seq (.asg (.sub (.var 0) (.cst (.int 2))) (.call i__law_fill (.cons (.var 0) .nil)))
   .skip)
   .skip)
 r__law_take_1)
def b__law_words : S :=
 (.seq (.asg (.nt (.nm 0)) (.cst (.str [97, 110, 100, 32, 97, 110, 100, 97, 108, 115, 111, 32, 99, 97, 115, 101, 32, 100, 97, 116, 97, 116, 121, 112, 101, 32, 100, 105, 118, 32, 101, 108, 115, 101, 32, 101, 110, 100, 32, 101, 120, 99, 101, 112, 116, 105, 111, 110, 32, 102, 110, 32, 102, 117, 110, 32, 102, 117, 110, 99, 116, 111, 114, 32, 104, 97, 110, 100, 108, 101, 32, 105, 102, 32, 105, 110, 32, 108, 101, 116, 32, 109, 111, 100, 32, 111, 102, 32, 111, 112, 101, 110])))
 (.seq (.asg (.nt (.nm 0)) (.bin .Add (.var 0) (.cst (.str [32, 111, 114, 101, 108, 115, 101, 32, 114, 97, 105, 115, 101, 32, 115, 105, 103, 32, 115, 105, 103, 110, 97, 116, 117, 114, 101, 32, 115, 116, 114, 117, 99, 116, 32, 115, 116, 114, 117, 99, 116, 117, 114, 101, 32, 116, 104, 101, 110, 32, 116, 121, 112, 101, 32, 118, 97, 108, 32, 119, 104, 101, 114, 101]))))
 (.seq (.ret (.mth .split (.var 0) (.cons (.cst (.str [32])) .nil)))
 .skip)))
def w__law_identifier_1 : S :=
 (.seq (.asg (.nt (.nm 4)) (.bin .Add (.var 4) (.idx (.var 2) (.call i__law_take (.cons (.var 0) (.cons (.cst (.int 64)) .nil))))))
 .skip)
def r__law_identifier_2 : S :=
 (.seq (.ret (.var 4))
 .skip)
def r__law_identifier_3 : S :=
 (.seq (.ite (.cmp .In (.var 4) (.call i__law_words .nil))
   (.seq (.asg (.nt (.nm 4)) (.bin .Add (.var 4) (.cst (.str [95]))))
   .skip)
   .skip)
 r__law_identifier_2)
def r__law_identifier_4 : S :=
 (.seq (.asg (.nt (.nm 4)) (.idx (.var 1) (.call i__law_take (.cons (.var 0) (.cons (.cst (.int 26)) .nil)))))
 (.seq (.for_ (.nm 5) (.rng1 (.var 3))
   w__law_identifier_1)
 r__law_identifier_3))
def b__law_identifier : S :=
 (.seq (.asg (.nt (.nm 2)) (.cst (.str [97, 98, 99, 100, 101, 102, 103, 104, 105, 106, 107, 108, 109, 110, 111, 112, 113, 114, 115, 116, 117, 118, 119, 120, 121, 122, 65, 66, 67, 68, 69, 70, 71, 72, 73, 74, 75, 76, 77, 78, 79, 80, 81, 82, 83, 84, 85, 86, 87, 88, 89, 90, 48, 49, 50, 51, 52, 53, 54, 55, 56, 57, 95, 39])))
 (.seq (.asg (.nt (.nm 3)) (.call i__law_take (.cons (.var 0) (.cons (.cst (.int 5)) .nil))))
 (.seq (.ite (.cmp .Eq (.var 3) (.cst (.int 4)))
   (.seq (.asg (.nt (.nm 3)) (.call i__law_take (.cons (.var 0) (.cons (.cst (.int 24)) .nil))))
   .skip)
   .skip)
 r__law_identifier_4)))
def w__law_digits_1 : S :=
 (.seq (.asg (.nt (.nm 2)) (.bin .Add (.var 2) (.blt .str (.cons (.call i__law_take (.cons (.var 0) (.cons (.cst (.int 10)) .nil))) .nil))))
 .skip)
def r__law_digits_2 : S :=
 (.seq (.ret (.var 2))
 .skip)
def r__law_digits_3 : S :=
 (.seq (.for_ (.nm 3) (.rng1 (.var 1))
   w__law_digits_1)
 r__law_digits_2)
def r__law_digits_4 : S :=
 (.seq (.asg (.nt (.nm 2)) (.blt .str (.cons (.call i__law_take (.cons (.var 0) (.cons (.cst (.int 10)) .nil))) .nil)))
 (.seq (.ite (.cmp .Eq (.var 2) (.cst (.str [48])))
   (.seq (.ret (.var 2))
   .skip)
   .skip)
 r__law_digits_3))
def b__law_digits : S :=
 (.seq (.asg (.nt (.nm 1)) (.call i__law_take (.cons (.var 0) (.cons (.cst (.int 4)) .nil))))
 (.seq (.ite (.cmp .Eq (.var 1) (.cst (.int 3)))
   (.seq (.asg (.nt (.nm 1)) (.call i__law_take (.cons (.var 0) (.cons (.cst (.int 18)) .nil))))
   .skip)
   .skip)
 r__law_digits_4))
def w__law_string_1 : S :=
 (.seq (.asg (.nt (.nm 2)) (.bin .Add (.var 2) (.idx (.var 1) (.call i__law_take (.cons (.var 0) (.cons (.cst (.int 95)) .nil))))))
 .skip)
def r__law_string_2 : S :=
 (.seq (.ret (.var 2))
 .skip)
def b__law_string : S :=
 (.seq (.asg (.nt (.nm 1)) (.cst (.str [32, 33, 34, 35, 36, 38, 39, 40, 41, 42, 43, 44, 45, 46, 47, 48, 49, 50, 51, 52, 53, 54, 55, 56, 57, 58, 59, 60, 61, 62, 63, 64, 65, 66, 67, 68, 69, 70, 71, 72, 73, 74, 75, 76, 77, 78, 79, 80, 81, 82, 83, 84, 85, 86, 87, 88, 89, 90, 91, 92, 93, 94, 95, 96])))
 (.seq (.asg (.nt (.nm 1)) (.bin .Add (.var 1) (.cst (.str [97, 98, 99, 100, 101, 102, 103, 104, 105, 106, 107, 108, 109, 110, 111, 112, 113, 114, 115, 116, 117, 118, 119, 120, 121, 122, 123, 124, 125, 126, 10]))))
 (.seq (.asg (.nt (.nm 2)) (.cst (.str [])))
 (.seq (.for_ (.nm 3) (.rng1 (.call i__law_take (.cons (.var 0) (.cons (.cst (.int 10)) .nil))))
   w__law_string_1)
 r__law_string_2))))
def w__law_quoted_1 : S :=
 (.seq (.ite (.cmp .Eq (.var 2) (.cst (.str [10])))
   (.seq (.asg (.nt (.nm 1)) (.bin .Add (.var 1) (.cst (.str [92, 110]))))
   .skip)
   (.seq (.ite (.or_ (.cmp .Eq (.var 2) (.cst (.str [92]))) (.cmp .Eq (.var 2) (.cst (.str [34]))))
     (.seq (.asg (.nt (.nm 1)) (.bin .Add (.bin .Add (.var 1) (.cst (.str [92]))) (.var 2)))
     .skip)
     (.seq (.asg (.nt (.nm 1)) (.bin .Add (.var 1) (.var 2)))
     .skip))
   .skip))
 .skip)
def r__law_quoted_2 : S :=
 (.seq (.ret (.bin .Add (.bin .Add (.cst (.str [34])) (.var 1)) (.cst (.str [34]))))
 .skip)
def b__law_quoted : S :=
 (.seq (.asg (.nt (.nm 1)) (.cst (.str [])))
 (.seq (.for_ (.nm 2) (.var 0)
   w__law_quoted_1)
 r__law_quoted_2))
def r__law_token_1 : S :=
 (.seq (.asg (.nt (.nm 1)) (.mth .split (.var 1) (.cons (.cst (.str [32])) .nil)))
 (.seq (.asg (.nt (.nm 3)) (.idx (.var 1) (.call i__law_take (.cons (.var 0) (.cons (.blt .len (.cons (.var 1) .nil)) .nil)))))
 (.seq (.ret (.tup (.cons (.var 2) (.cons (.var 3) (.cons (.var 3) .nil)))))
 .skip)))
def r__law_token_2 : S :=
 (.seq (.ite (.cmp .Eq (.var 2) (.cst (.str [119, 111, 114, 100])))
   (.seq (.asg (.nt (.nm 4)) (.call i__law_words .nil))
   (.seq (.asg (.nt (.nm 3)) (.idx (.var 4) (.call i__law_take (.cons (.var 0) (.cons (.blt .len (.cons (.var 4) .nil)) .nil)))))
   (.seq (.ret (.tup (.cons (.var 2) (.cons (.var 3) (.cons (.var 3) .nil)))))
   .skip)))
   .skip)
 r__law_token_1)
def r__law_token_3 : S :=
 (.seq (.ite (.cmp .Eq (.var 2) (.cst (.str [115, 116, 114, 105, 110, 103])))
   (.seq (.asg (.nt (.nm 3)) (.call i__law_string (.cons (.var 0) .nil)))
   (.seq (.ret (.tup (.cons (.var 2) (.cons (.var 3) (.cons (.call i__law_quoted (.cons (.var 3) .nil)) .nil)))))
   .skip))
   .skip)
 r__law_token_2)
def r__law_token_4 : S :=
 (.seq (.ite (.cmp .Eq (.var 2) (.cst (.str [105, 110, 116])))
   (.seq (.asg (.nt (.nm 3)) (.call i__law_digits (.cons (.var 0) .nil)))
   (.seq (.ret (.tup (.cons (.var 2) (.cons (.var 3) (.cons (.var 3) .nil)))))
   .skip))
   .skip)
 r__law_token_3)
def r__law_token_5 : S :=
 (.seq (.ite (.cmp .Eq (.var 2) (.cst (.str [118, 97, 114])))
   (.seq (.asg (.nt (.nm 3)) (.idx (.cst (.str [97, 98, 99, 100, 101, 102, 103, 104, 105, 106, 107, 108, 109, 110, 111, 112, 113, 114, 115, 116, 117, 118, 119, 120, 121, 122])) (.call i__law_take (.cons (.var 0) (.cons (.cst (.int 26)) .nil)))))
   (.seq (.ret (.tup (.cons (.var 2) (.cons (.var 3) (.cons (.bin .Add (.cst (.str [39])) (.var 3)) .nil)))))
   .skip))
   .skip)
 r__law_token_4)
def r__law_token_6 : S :=
 (.seq (.ite (.cmp .Eq (.var 2) (.cst (.str [104, 105, 103, 104])))
   (.seq (.asg (.nt (.nm 3)) (.call i__law_identifier (.cons (.var 0) (.cons (.cst (.str [65, 66, 67, 68, 69, 70, 71, 72, 73, 74, 75, 76, 77, 78, 79, 80, 81, 82, 83, 84, 85, 86, 87, 88, 89, 90])) .nil))))
   (.seq (.ret (.tup (.cons (.var 2) (.cons (.var 3) (.cons (.var 3) .nil)))))
   .skip))
   .skip)
 r__law_token_5)
def b__law_token : S :=
 (.seq (.asg (.nt (.nm 1)) (.cst (.str [40, 32, 41, 32, 91, 32, 93, 32, 44, 32, 59, 32, 58, 32, 58, 62, 32, 61, 32, 61, 62, 32, 45, 62, 32, 124, 32, 95, 32, 46, 32, 42, 32, 43, 32, 45, 32, 94, 32, 58, 58, 32, 60, 32, 60, 61, 32, 62, 32, 62, 61, 32, 60, 62, 32, 58, 61, 32, 33, 32, 126])))
 (.seq (.asg (.nt (.nm 2)) (.idx (.lst (.cons (.cst (.str [108, 111, 119])) (.cons (.cst (.str [104, 105, 103, 104])) (.cons (.cst (.str [118, 97, 114])) (.cons (.cst (.str [105, 110, 116])) (.cons (.cst (.str [115, 116, 114, 105, 110, 103])) (.cons (.cst (.str [119, 111, 114, 100])) (.cons (.cst (.str [115, 105, 103, 110])) .nil)))))))) (.call i__law_take (.cons (.var 0) (.cons (.cst (.int 7)) .nil)))))
 (.seq (.ite (.cmp .Eq (.var 2) (.cst (.str [108, 111, 119])))
   (.seq (.asg (.nt (.nm 3)) (.call i__law_identifier (.cons (.var 0) (.cons (.cst (.str [97, 98, 99, 100, 101, 102, 103, 104, 105, 106, 107, 108, 109, 110, 111, 112, 113, 114, 115, 116, 117, 118, 119, 120, 121, 122])) .nil))))
   (.seq (.ret (.tup (.cons (.var 2) (.cons (.var 3) (.cons (.var 3) .nil)))))
   .skip))
   .skip)
 r__law_token_6)))
def w__law_comment_1 : S :=
 (.seq (.asg (.nt (.nm 3)) (.bin .Add (.var 3) (.idx (.var 2) (.call i__law_take (.cons (.var 0) (.cons (.cst (.int 12)) .nil))))))
 (.seq (.ite (.and_ (.cmp .Gt (.var 1) (.cst (.int 0))) (.cmp .Eq (.call i__law_take (.cons (.var 0) (.cons (.cst (.int 3)) .nil))) (.cst (.int 0))))
   (.seq (.asg (.nt (.nm 3)) (.bin .Add (.var 3) (.call i__law_comment (.cons (.var 0) (.cons (.bin .Sub (.var 1) (.cst (.int 1))) .nil)))))
   .skip)
   .skip)
 .skip))
def r__law_comment_2 : S :=
 (.seq (.ret (.bin .Add (.bin .Add (.var 3) (.idx (.lst (.cons (.cst (.str [])) (.cons (.cst (.str [32])) (.cons (.cst (.str [42])) .nil)))) (.call i__law_take (.cons (.var 0) (.cons (.cst (.int 3)) .nil))))) (.cst (.str [42, 41]))))
 .skip)
def b__law_comment : S :=
 (.seq (.asg (.nt (.nm 2)) (.lst (.cons (.cst (.str [32])) (.cons (.cst (.str [10])) (.cons (.cst (.str [97])) (.cons (.cst (.str [34, 32])) (.cons (.cst (.str [39, 32])) (.cons (.cst (.str [92])) (.cons (.cst (.str [35, 32])) (.cons (.cst (.str [40, 32])) (.cons (.cst (.str [32, 41, 32])) (.cons (.cst (.str [118, 97, 108])) (.cons (.cst (.str [42, 42, 32])) (.cons (.cst (.str [49, 97])) .nil))))))))))))))
 (.seq (.asg (.nt (.nm 3)) (.cst (.str [40, 42])))
 (.seq (.for_ (.nm 4) (.rng1 (.call i__law_take (.cons (.var 0) (.cons (.cst (.int 4)) .nil))))
   w__law_comment_1)
 r__law_comment_2)))
def r__law_gap_1 : S :=
 (.seq (.ret (.var 2))
 .skip)
def r__law_gap_2 : S :=
 (.seq (.asg (.nt (.nm 1)) (.lst (.cons (.cst (.str [32])) (.cons (.cst (.str [10])) (.cons (.cst (.str [32, 32])) (.cons (.cst (.str [32, 10, 32])) (.cons (.cst (.str [40, 42, 32, 97, 32, 42, 41])) (.cons (.cst (.str [40, 42, 42, 41])) (.cons (.cst (.str [40, 42, 32, 40, 42, 32, 118, 97, 108, 32, 42, 41, 32, 101, 110, 100, 32, 42, 41])) (.cons (.cst (.str [40, 42, 32, 34, 32, 42, 41])) (.cons (.cst (.str [40, 42, 41, 42, 41])) (.cons (.cst (.str [40, 42, 32, 92, 32, 39, 32, 48, 49, 32, 42, 41])) .nil))))))))))))
 (.seq (.asg (.nt (.nm 2)) (.idx (.var 1) (.call i__law_take (.cons (.var 0) (.cons (.cst (.int 10)) .nil)))))
 (.seq (.ite (.cmp .Eq (.call i__law_take (.cons (.var 0) (.cons (.cst (.int 4)) .nil))) (.cst (.int 0)))
   (.seq (.asg (.nt (.nm 2)) (.bin .Add (.var 2) (.idx (.var 1) (.call i__law_take (.cons (.var 0) (.cons (.cst (.int 10)) .nil))))))
   .skip)
   .skip)
 r__law_gap_1)))
def b__law_gap : S :=
 (.seq (.ite (.cmp .Eq (.call i__law_take (.cons (.var 0) (.cons (.cst (.int 6)) .nil))) (.cst (.int 0)))
   (.seq (.ret (.call i__law_comment (.cons (.var 0) (.cons (.cst (.int 2)) .nil))))
   .skip)
   .skip)
 r__law_gap_2)
def r__law_apart_1 : S :=
 (.seq (.ret (.or_ (.cmp .Eq (.idx (.var 0) (.cst (.int 1))) (.cst (.str [41]))) (.or_ (.cmp .Eq (.idx (.var 0) (.cst (.int 1))) (.cst (.str [93]))) (.or_ (.cmp .Eq (.idx (.var 0) (.cst (.int 1))) (.cst (.str [44]))) (.or_ (.cmp .Eq (.idx (.var 0) (.cst (.int 1))) (.cst (.str [59]))) (.cmp .Eq (.idx (.var 0) (.cst (.int 1))) (.cst (.str [91]))))))))
 .skip)
def r__law_apart_2 : S :=
 (.seq (.ite (.cmp .Eq (.idx (.var 0) (.cst (.int 1))) (.cst (.str [40])))
   (.seq (.ret (.or_ (.cmp .NotEq (.idx (.var 1) (.cst (.int 1))) (.cst (.str [42]))) (.cmp .NotEq (.idx (.var 1) (.cst (.int 0))) (.cst (.str [115, 105, 103, 110])))))
   .skip)
   .skip)
 r__law_apart_1)
def r__law_apart_3 : S :=
 (.seq (.ite (.cmp .NotEq (.idx (.var 0) (.cst (.int 0))) (.cst (.str [115, 105, 103, 110])))
   (.seq (.ret (.or_ (.and_ (.cmp .Eq (.idx (.var 1) (.cst (.int 0))) (.cst (.str [115, 105, 103, 110]))) (.cmp .NotEq (.idx (.var 1) (.cst (.int 1))) (.cst (.str [95])))) (.cmp .Eq (.idx (.var 1) (.cst (.int 0))) (.cst (.str [115, 116, 114, 105, 110, 103])))))
   .skip)
   .skip)
 r__law_apart_2)
def r__law_apart_4 : S :=
 (.seq (.ite (.cmp .Eq (.idx (.var 0) (.cst (.int 0))) (.cst (.str [115, 116, 114, 105, 110, 103])))
   (.seq (.ret (.cmp .Eq (.idx (.var 1) (.cst (.int 0))) (.cst (.str [115, 105, 103, 110]))))
   .skip)
   .skip)
 r__law_apart_3)
def b__law_apart : S :=
 (.seq (.ite (.or_ (.cmp .Is (.var 0) (.cst .non)) (.cmp .Is (.var 1) (.cst .non)))
   (.seq (.ret (.cst (.bl true)))
   .skip)
   .skip)
 r__law_apart_4)
def r__law_same_1 : S :=
 (.seq (.ite (.or_ (.not_ (.isi .int (.idx (.var 3) (.cst (.int 2))))) (.or_ (.isi .bool (.idx (.var 3) (.cst (.int 2)))) (.cmp .NotEq (.var 3) (.idx (.var 1) (.var 2)))))
   (.seq (.ret (.cst (.bl false)))
   .skip)
   .skip)
 .skip)
def r__law_same_2 : S :=
 (.seq (.ite (.or_ (.not_ (.isi .str (.idx (.var 3) (.cst (.int 0))))) (.not_ (.isi .str (.idx (.var 3) (.cst (.int 1))))))
   (.seq (.ret (.cst (.bl false)))
   .skip)
   .skip)
 r__law_same_1)
def w__law_same_3 : S :=
 (.seq (.asg (.nt (.nm 3)) (.idx (.var 0) (.var 2)))
 (.seq (.ite (.or_ (.not_ (.isi .tuple (.var 3))) (.cmp .NotEq (.blt .len (.cons (.var 3) .nil)) (.cst (.int 3))))
   (.seq (.ret (.cst (.bl false)))
   .skip)
   .skip)
 r__law_same_2))
def r__law_same_4 : S :=
 (.seq (.ret (.cst (.bl true)))
 .skip)
def r__law_same_5 : S :=
 (.seq (.for_ (.nm 2) (.rng1 (.blt .len (.cons (.var 1) .nil)))
   w__law_same_3)
 r__law_same_4)
def b__law_same : S :=
 (.seq (.ite (.or_ (.not_ (.isi .list (.var 0))) (.cmp .NotEq (.blt .len (.cons (.var 0) .nil)) (.blt .len (.cons (.var 1) .nil))))
   (.seq (.ret (.cst (.bl false)))
   .skip)
   .skip)
 r__law_same_5)
def r_law_1 : S :=
 (.seq (.asg (.nt (.nm 5)) (.var 7))
 .skip)
def r_law_2 : S :=
 (.seq (.ite (.cmp .IsNot (.var 7) (.cst .non))
   (.seq (.expr (.mth .append (.var 4) (.cons (.tup (.cons (.idx (.var 7) (.cst (.int 0))) (.cons (.idx (.var 7) (.cst (.int 1))) (.cons (.blt .len (.cons (.var 3) .nil)) .nil)))) .nil)))
   (.seq (.asg (.nt (.nm 3)) (.bin .Add (.var 3) (.idx (.var 7) (.cst (.int 2)))))
   .skip))
   .skip)
 r_law_1)
def r_law_3 : S :=
 (.seq (.ite (.or_ (.not_ (.call i__law_apart (.cons (.var 5) (.cons (.var 7) .nil)))) (.cmp .Eq (.call i__law_take (.cons (.var 1) (.cons (.cst (.int 2)) .nil))) (.cst (.int 0))))
   (.seq (.asg (.nt (.nm 3)) (.bin .Add (.var 3) (.call i__law_gap (.cons (.var 1) .nil))))
   .skip)
   .skip)
 r_law_2)
def w_law_4 : S :=
 (.seq (.asg (.nt (.nm 7)) (.cst .non))
 (.seq (.ite (.cmp .Lt (.var 6) (.var 2))
   (.seq (.asg (.nt (.nm 7)) (.call i__law_token (.cons (.var 1) .nil)))
   .skip)
   .skip)
 r_law_3))
def r_law_5 : S :=
 (.seq (.ret (.call i__law_same (.cons (.call i_read_tokens (.cons (.var 3) .nil)) (.cons (.var 4) .nil))))
 .skip)
def r_law_6 : S :=
 (.seq (.ite (.cmp .Gt (.blt .len (.cons (.var 3) .nil)) (.cst (.int 4000)))
   (.seq (.ret (.cst (.bl true)))
   .skip)
   .skip)
 r_law_5)
def r_law_7 : S :=
 (.seq (.asg (.nt (.nm 3)) (.cst (.str [])))
 (.seq (.asg (.nt (.nm 4)) (.lst .nil))
 (.seq (.asg (.nt (.nm 5)) (.cst .non))
 (.seq (.for_ (.nm 6) (.rng1 (.bin .Add (.var 2) (.cst (.int 1))))
   w_law_4)
 r_law_6))))
def b_law : S :=
 (.seq (.asg (.nt (.nm 1)) (.call i__law_start (.cons (.var 0) .nil)))
 (.seq (.asg (.nt (.nm 2)) (.call i__law_take (.cons (.var 1) (.cons (.cst (.int 8)) .nil))))
 (.seq (.ite (.cmp .Eq (.var 2) (.cst (.int 7)))
   (.seq (.asg (.nt (.nm 2)) (.call i__law_take (.cons (.var 1) (.cons (.cst (.int 41)) .nil))))
   .skip)
   .skip)
 r_law_7)))
def ft : List Fn := [⟨1, 5, b_read_tokens⟩, ⟨2, 2, b_skip_space⟩, ⟨2, 4, b_skip_comment⟩, ⟨2, 3, b_read_token⟩, ⟨2, 2, b_end_of_word⟩, ⟨2, 4, b_read_name⟩, ⟨2, 5, b_read_number⟩, ⟨2, 3, b_read_variable⟩, ⟨2, 4, b_read_string⟩, ⟨2, 3, b_escaped⟩, ⟨1, 2, b__law_start⟩, ⟨1, 2, b__law_fill⟩, ⟨2, 3, b__law_take⟩, ⟨0, 1, b__law_words⟩, ⟨2, 6, b__law_identifier⟩, ⟨1, 4, b__law_digits⟩, ⟨1, 4, b__law_string⟩, ⟨1, 3, b__law_quoted⟩, ⟨1, 5, b__law_token⟩, ⟨2, 5, b__law_comment⟩, ⟨1, 3, b__law_gap⟩, ⟨2, 2, b__law_apart⟩, ⟨2, 4, b__law_same⟩, ⟨1, 8, b_law⟩]
end Gu
end

section
set_option Elab.async false
set_option linter.all false
set_option maxRecDepth 100000
set_option maxHeartbeats 4000000
namespace Gu
open PySem PySem.Spec PyProof.Rows L2
def topS (i : Nat) : Stmt := PySem.Challenge.pw_guanaco_k01_tokens_of_a_text.main.body.getD i (.Pass ⟨0, 0, 0, 0⟩)
def G : GT := ⟨[("read_tokens", 1), ("skip_space", 2), ("skip_comment", 2), ("read_token", 2), ("end_of_word", 2), ("read_name", 2), ("read_number", 2), ("read_variable", 2), ("read_string", 2), ("escaped", 2), ("_law_start", 1), ("_law_fill", 1), ("_law_take", 2), ("_law_words", 0), ("_law_identifier", 2), ("_law_digits", 1), ("_law_string", 1), ("_law_quoted", 1), ("_law_token", 1), ("_law_comment", 2), ("_law_gap", 1), ("_law_apart", 2), ("_law_same", 2), ("law", 1)], [("WORDS", c_WORDS), ("LONG_SIGNS", c_LONG_SIGNS), ("SHORT_SIGNS", c_SHORT_SIGNS), ("LOW", c_LOW), ("HIGH", c_HIGH), ("DIGITS", c_DIGITS), ("FOLLOWING", c_FOLLOWING)]⟩
def e_read_tokens : Ent G :=
  { x := "read_tokens", a := defArgs (topS 12), body := defBody (topS 12), sc := defScope (topS 12), N := ["text", "tokens", "at", "token", "end"], ps := ["text"], F := ⟨1, 5, b_read_tokens⟩
    scp := ⟨rfl, rfl, rfl, by decide +kernel, rfl, by decide +kernel, by decide +kernel⟩, np := rfl, nn := rfl, chk := by decide +kernel
    bind := fun _ _ _ _ _ _ us hl => match us, hl with | [_], _ => rfl }
def e_skip_space : Ent G :=
  { x := "skip_space", a := defArgs (topS 13), body := defBody (topS 13), sc := defScope (topS 13), N := ["text", "at"], ps := ["text", "at"], F := ⟨2, 2, b_skip_space⟩
    scp := ⟨rfl, rfl, rfl, by decide +kernel, rfl, by decide +kernel, by decide +kernel⟩, np := rfl, nn := rfl, chk := by decide +kernel
    bind := fun _ _ _ _ _ _ us hl => match us, hl with | [_, _], _ => rfl }
def e_skip_comment : Ent G :=
  { x := "skip_comment", a := defArgs (topS 14), body := defBody (topS 14), sc := defScope (topS 14), N := ["text", "start", "depth", "at"], ps := ["text", "start"], F := ⟨2, 4, b_skip_comment⟩
    scp := ⟨rfl, rfl, rfl, by decide +kernel, rfl, by decide +kernel, by decide +kernel⟩, np := rfl, nn := rfl, chk := by decide +kernel
    bind := fun _ _ _ _ _ _ us hl => match us, hl with | [_, _], _ => rfl }
def e_read_token : Ent G :=
  { x := "read_token", a := defArgs (topS 15), body := defBody (topS 15), sc := defScope (topS 15), N := ["text", "at", "char"], ps := ["text", "at"], F := ⟨2, 3, b_read_token⟩
    scp := ⟨rfl, rfl, rfl, by decide +kernel, rfl, by decide +kernel, by decide +kernel⟩, np := rfl, nn := rfl, chk := by decide +kernel
    bind := fun _ _ _ _ _ _ us hl => match us, hl with | [_, _], _ => rfl }
def e_end_of_word : Ent G :=
  { x := "end_of_word", a := defArgs (topS 16), body := defBody (topS 16), sc := defScope (topS 16), N := ["text", "at"], ps := ["text", "at"], F := ⟨2, 2, b_end_of_word⟩
    scp := ⟨rfl, rfl, rfl, by decide +kernel, rfl, by decide +kernel, by decide +kernel⟩, np := rfl, nn := rfl, chk := by decide +kernel
    bind := fun _ _ _ _ _ _ us hl => match us, hl with | [_, _], _ => rfl }
def e_read_name : Ent G :=
  { x := "read_name", a := defArgs (topS 17), body := defBody (topS 17), sc := defScope (topS 17), N := ["text", "at", "end", "name"], ps := ["text", "at"], F := ⟨2, 4, b_read_name⟩
    scp := ⟨rfl, rfl, rfl, by decide +kernel, rfl, by decide +kernel, by decide +kernel⟩, np := rfl, nn := rfl, chk := by decide +kernel
    bind := fun _ _ _ _ _ _ us hl => match us, hl with | [_, _], _ => rfl }
def e_read_number : Ent G :=
  { x := "read_number", a := defArgs (topS 18), body := defBody (topS 18), sc := defScope (topS 18), N := ["text", "at", "end", "digits", "char"], ps := ["text", "at"], F := ⟨2, 5, b_read_number⟩
    scp := ⟨rfl, rfl, rfl, by decide +kernel, rfl, by decide +kernel, by decide +kernel⟩, np := rfl, nn := rfl, chk := by decide +kernel
    bind := fun _ _ _ _ _ _ us hl => match us, hl with | [_, _], _ => rfl }
def e_read_variable : Ent G :=
  { x := "read_variable", a := defArgs (topS 19), body := defBody (topS 19), sc := defScope (topS 19), N := ["text", "at", "end"], ps := ["text", "at"], F := ⟨2, 3, b_read_variable⟩
    scp := ⟨rfl, rfl, rfl, by decide +kernel, rfl, by decide +kernel, by decide +kernel⟩, np := rfl, nn := rfl, chk := by decide +kernel
    bind := fun _ _ _ _ _ _ us hl => match us, hl with | [_, _], _ => rfl }
def e_read_string : Ent G :=
  { x := "read_string", a := defArgs (topS 20), body := defBody (topS 20), sc := defScope (topS 20), N := ["text", "start", "chars", "at"], ps := ["text", "start"], F := ⟨2, 4, b_read_string⟩
    scp := ⟨rfl, rfl, rfl, by decide +kernel, rfl, by decide +kernel, by decide +kernel⟩, np := rfl, nn := rfl, chk := by decide +kernel
    bind := fun _ _ _ _ _ _ us hl => match us, hl with | [_, _], _ => rfl }
def e_escaped : Ent G :=
  { x := "escaped", a := defArgs (topS 21), body := defBody (topS 21), sc := defScope (topS 21), N := ["text", "at", "char"], ps := ["text", "at"], F := ⟨2, 3, b_escaped⟩
    scp := ⟨rfl, rfl, rfl, by decide +kernel, rfl, by decide +kernel, by decide +kernel⟩, np := rfl, nn := rfl, chk := by decide +kernel
    bind := fun _ _ _ _ _ _ us hl => match us, hl with | [_, _], _ => rfl }
def e__law_start : Ent G :=
  { x := "_law_start", a := defArgs (topS 23), body := defBody (topS 23), sc := defScope (topS 23), N := ["script", "cell"], ps := ["script"], F := ⟨1, 2, b__law_start⟩
    scp := ⟨rfl, rfl, rfl, by decide +kernel, rfl, by decide +kernel, by decide +kernel⟩, np := rfl, nn := rfl, chk := by decide +kernel
    bind := fun _ _ _ _ _ _ us hl => match us, hl with | [_], _ => rfl }
def e__law_fill : Ent G :=
  { x := "_law_fill", a := defArgs (topS 24), body := defBody (topS 24), sc := defScope (topS 24), N := ["d", "number"], ps := ["d"], F := ⟨1, 2, b__law_fill⟩
    scp := ⟨rfl, rfl, rfl, by decide +kernel, rfl, by decide +kernel, by decide +kernel⟩, np := rfl, nn := rfl, chk := by decide +kernel
    bind := fun _ _ _ _ _ _ us hl => match us, hl with | [_], _ => rfl }
def e__law_take : Ent G :=
  { x := "_law_take", a := defArgs (topS 25), body := defBody (topS 25), sc := defScope (topS 25), N := ["d", "many", "answer"], ps := ["d", "many"], F := ⟨2, 3, b__law_take⟩
    scp := ⟨rfl, rfl, rfl, by decide +kernel, rfl, by decide +kernel, by decide +kernel⟩, np := rfl, nn := rfl, chk := by decide +kernel
    bind := fun _ _ _ _ _ _ us hl => match us, hl with | [_, _], _ => rfl }
def e__law_words : Ent G :=
  { x := "_law_words", a := defArgs (topS 26), body := defBody (topS 26), sc := defScope (topS 26), N := ["words"], ps := [], F := ⟨0, 1, b__law_words⟩
    scp := ⟨rfl, rfl, rfl, by decide +kernel, rfl, by decide +kernel, by decide +kernel⟩, np := rfl, nn := rfl, chk := by decide +kernel
    bind := fun _ _ _ _ _ _ us hl => match us, hl with | [], _ => rfl }
def e__law_identifier : Ent G :=
  { x := "_law_identifier", a := defArgs (topS 27), body := defBody (topS 27), sc := defScope (topS 27), N := ["d", "first", "rest", "many", "text", "k"], ps := ["d", "first"], F := ⟨2, 6, b__law_identifier⟩
    scp := ⟨rfl, rfl, rfl, by decide +kernel, rfl, by decide +kernel, by decide +kernel⟩, np := rfl, nn := rfl, chk := by decide +kernel
    bind := fun _ _ _ _ _ _ us hl => match us, hl with | [_, _], _ => rfl }
def e__law_digits : Ent G :=
  { x := "_law_digits", a := defArgs (topS 28), body := defBody (topS 28), sc := defScope (topS 28), N := ["d", "many", "text", "k"], ps := ["d"], F := ⟨1, 4, b__law_digits⟩
    scp := ⟨rfl, rfl, rfl, by decide +kernel, rfl, by decide +kernel, by decide +kernel⟩, np := rfl, nn := rfl, chk := by decide +kernel
    bind := fun _ _ _ _ _ _ us hl => match us, hl with | [_], _ => rfl }
def e__law_string : Ent G :=
  { x := "_law_string", a := defArgs (topS 29), body := defBody (topS 29), sc := defScope (topS 29), N := ["d", "chars", "text", "k"], ps := ["d"], F := ⟨1, 4, b__law_string⟩
    scp := ⟨rfl, rfl, rfl, by decide +kernel, rfl, by decide +kernel, by decide +kernel⟩, np := rfl, nn := rfl, chk := by decide +kernel
    bind := fun _ _ _ _ _ _ us hl => match us, hl with | [_], _ => rfl }
def e__law_quoted : Ent G :=
  { x := "_law_quoted", a := defArgs (topS 30), body := defBody (topS 30), sc := defScope (topS 30), N := ["text", "out", "char"], ps := ["text"], F := ⟨1, 3, b__law_quoted⟩
    scp := ⟨rfl, rfl, rfl, by decide +kernel, rfl, by decide +kernel, by decide +kernel⟩, np := rfl, nn := rfl, chk := by decide +kernel
    bind := fun _ _ _ _ _ _ us hl => match us, hl with | [_], _ => rfl }
def e__law_token : Ent G :=
  { x := "_law_token", a := defArgs (topS 31), body := defBody (topS 31), sc := defScope (topS 31), N := ["d", "signs", "kind", "text", "words"], ps := ["d"], F := ⟨1, 5, b__law_token⟩
    scp := ⟨rfl, rfl, rfl, by decide +kernel, rfl, by decide +kernel, by decide +kernel⟩, np := rfl, nn := rfl, chk := by decide +kernel
    bind := fun _ _ _ _ _ _ us hl => match us, hl with | [_], _ => rfl }
def e__law_comment : Ent G :=
  { x := "_law_comment", a := defArgs (topS 32), body := defBody (topS 32), sc := defScope (topS 32), N := ["d", "depth", "pieces", "text", "k"], ps := ["d", "depth"], F := ⟨2, 5, b__law_comment⟩
    scp := ⟨rfl, rfl, rfl, by decide +kernel, rfl, by decide +kernel, by decide +kernel⟩, np := rfl, nn := rfl, chk := by decide +kernel
    bind := fun _ _ _ _ _ _ us hl => match us, hl with | [_, _], _ => rfl }
def e__law_gap : Ent G :=
  { x := "_law_gap", a := defArgs (topS 33), body := defBody (topS 33), sc := defScope (topS 33), N := ["d", "gaps", "text"], ps := ["d"], F := ⟨1, 3, b__law_gap⟩
    scp := ⟨rfl, rfl, rfl, by decide +kernel, rfl, by decide +kernel, by decide +kernel⟩, np := rfl, nn := rfl, chk := by decide +kernel
    bind := fun _ _ _ _ _ _ us hl => match us, hl with | [_], _ => rfl }
def e__law_apart : Ent G :=
  { x := "_law_apart", a := defArgs (topS 34), body := defBody (topS 34), sc := defScope (topS 34), N := ["left", "right"], ps := ["left", "right"], F := ⟨2, 2, b__law_apart⟩
    scp := ⟨rfl, rfl, rfl, by decide +kernel, rfl, by decide +kernel, by decide +kernel⟩, np := rfl, nn := rfl, chk := by decide +kernel
    bind := fun _ _ _ _ _ _ us hl => match us, hl with | [_, _], _ => rfl }
def e__law_same : Ent G :=
  { x := "_law_same", a := defArgs (topS 35), body := defBody (topS 35), sc := defScope (topS 35), N := ["actual", "due", "k", "token"], ps := ["actual", "due"], F := ⟨2, 4, b__law_same⟩
    scp := ⟨rfl, rfl, rfl, by decide +kernel, rfl, by decide +kernel, by decide +kernel⟩, np := rfl, nn := rfl, chk := by decide +kernel
    bind := fun _ _ _ _ _ _ us hl => match us, hl with | [_, _], _ => rfl }
def e_law : Ent G :=
  { x := "law", a := defArgs (topS 36), body := defBody (topS 36), sc := defScope (topS 36), N := ["script", "d", "many", "text", "due", "left", "k", "right"], ps := ["script"], F := ⟨1, 8, b_law⟩
    scp := ⟨rfl, rfl, rfl, by decide +kernel, rfl, by decide +kernel, by decide +kernel⟩, np := rfl, nn := rfl, chk := by decide +kernel
    bind := fun _ _ _ _ _ _ us hl => match us, hl with | [_], _ => rfl }
def ents : List (Ent G) := [e_read_tokens, e_skip_space, e_skip_comment, e_read_token, e_end_of_word, e_read_name, e_read_number, e_read_variable, e_read_string, e_escaped, e__law_start, e__law_fill, e__law_take, e__law_words, e__law_identifier, e__law_digits, e__law_string, e__law_quoted, e__law_token, e__law_comment, e__law_gap, e__law_apart, e__law_same, e_law]
end Gu
end

section
set_option linter.all false
set_option Elab.async false
/-! Gs: how the small language computes, as rules for simp. -/
namespace Gu
open PySem L2
section
variable {call : CallT} {ρ : Rho} {h : MH} {a b c e es lo hi o it cond elt : E} {x y : Val}
def truR (x : Val) (h : MH) : R Bool := R.ofO (truV h x) h
def itR (x : Val) (h : MH) : R Items := R.ofO (itemsV h x) h
def intO (x : Val) (h : MH) : R (Option Int) := match x with | .int k => .ok (some k) h | _ => .no
def blR (x : Val) (h : MH) : R Bool := match x with | .bl k => .ok k h | _ => .no
@[simp] theorem truR_bl {b : Bool} : truR (.bl b) h = .ok b h := rfl
@[simp] theorem truR_int {i : Int} : truR (.int i) h = .ok (i != 0) h := rfl
@[simp] theorem truR_str {s : List Nat} : truR (.str s) h = .ok (!s.isEmpty) h := rfl
@[simp] theorem truR_tup {s : List Val} : truR (.tup s) h = .ok (!s.isEmpty) h := rfl
@[simp] theorem truR_non : truR .non h = .ok false h := rfl
theorem truR_loc {n : Nat} {vs : List Val} (hn : h[n]? = some (.lst vs)) : truR (.loc n) h = .ok (!vs.isEmpty) h := by
  simp [truR, truV, seqL, hn]
@[simp] theorem intO_int {i : Int} : intO (.int i) h = .ok (some i) h := rfl
@[simp] theorem blR_bl {b : Bool} : blR (.bl b) h = .ok b h := rfl
@[simp] theorem itR_tup {s : List Val} : itR (.tup s) h = .ok (.vals s) h := rfl
@[simp] theorem itR_fro {s : List Val} : itR (.fro s) h = .ok (.vals s) h := rfl
@[simp] theorem itR_str {s : List Nat} : itR (.str s) h = .ok (.vals (s.map fun c => .str [c])) h := rfl
theorem itR_loc {n : Nat} {vs : List Val} (hn : h[n]? = some (.lst vs)) : itR (.loc n) h = .ok (.live n vs.length) h := by
  simp [itR, itemsV, seqL, hn]
/-! expressions -/
@[simp] theorem v_var {i : Nat} : (ev call (.var i)).v ρ h = R.ofO (ρ[i]?).join h := rfl
@[simp] theorem v_cst {v : Val} : (ev call (.cst v)).v ρ h = .ok v h := rfl
@[simp] theorem v_glb {n : Str} {v : Val} : (ev call (.glb n v)).v ρ h = .ok v h := rfl
@[simp] theorem v_bin {op : Operator} : (ev call (.bin op a b)).v ρ h = ((ev call a).v ρ h).bind fun x h1 => ((ev call b).v ρ h1).bind fun y h2 => binV op x y h2 := rfl
def negR (x : Val) (h : MH) : R Val := match x with | .int i => .ok (.int (-i)) h | _ => .no
@[simp] theorem negR_int {i : Int} : negR (.int i) h = .ok (.int (-i)) h := rfl
@[simp] theorem v_neg : (ev call (.neg a)).v ρ h = ((ev call a).v ρ h).bind negR := rfl
def cmpR (op : CmpOp) (x y : Val) (h : MH) : R Val := R.ofO (cmpV op h x y) h
@[simp] theorem v_cmp {op : CmpOp} : (ev call (.cmp op a b)).v ρ h = ((ev call a).v ρ h).bind fun x h1 => ((ev call b).v ρ h1).bind fun y h2 => cmpR op x y h2 := rfl
@[simp] theorem t_cmp {op : CmpOp} : (ev call (.cmp op a b)).t ρ h = (((ev call a).v ρ h).bind fun x h1 => ((ev call b).v ρ h1).bind fun y h2 => cmpR op x y h2).bind blR := rfl
@[simp] theorem v_and : (ev call (.and_ a b)).v ρ h = ((ev call a).v ρ h).bind fun x h1 => (truR x h1).bind fun k h2 => if k then (ev call b).v ρ h2 else .ok x h2 := rfl
@[simp] theorem t_and : (ev call (.and_ a b)).t ρ h = ((ev call a).t ρ h).bind fun x h1 => if x then (ev call b).t ρ h1 else .ok false h1 := rfl
@[simp] theorem v_or : (ev call (.or_ a b)).v ρ h = ((ev call a).v ρ h).bind fun x h1 => (truR x h1).bind fun k h2 => if k then .ok x h2 else (ev call b).v ρ h2 := rfl
@[simp] theorem t_or : (ev call (.or_ a b)).t ρ h = ((ev call a).t ρ h).bind fun x h1 => if x then .ok true h1 else (ev call b).t ρ h1 := rfl
@[simp] theorem v_not : (ev call (.not_ a)).v ρ h = ((ev call a).v ρ h).bind fun x h1 => (truR x h1).bind fun k h2 => .ok (.bl (!k)) h2 := rfl
@[simp] theorem t_not : (ev call (.not_ a)).t ρ h = ((ev call a).t ρ h).bind fun x h1 => .ok (!x) h1 := rfl
@[simp] theorem v_ite : (ev call (.ite c a b)).v ρ h = ((ev call c).t ρ h).bind fun x h1 => if x then (ev call a).v ρ h1 else (ev call b).v ρ h1 := rfl
@[simp] theorem t_ite : (ev call (.ite c a b)).t ρ h = ((ev call c).t ρ h).bind fun x h1 => if x then (ev call a).t ρ h1 else (ev call b).t ρ h1 := rfl
def tupR (xs : List Val) (h : MH) : R Val := if xs.length ≤ sizeLine then .ok (.tup xs) h else .no
def lstR (xs : List Val) (h : MH) : R Val := if xs.length ≤ sizeLine then .ok (.loc h.length) (h ++ [.lst xs]) else .no
@[simp] theorem v_tup : (ev call (.tup es)).v ρ h = ((ev call es).a ρ h).bind tupR := rfl
@[simp] theorem v_lst : (ev call (.lst es)).v ρ h = ((ev call es).a ρ h).bind lstR := rfl
def idxR (x y : Val) (h : MH) : R Val := R.ofO (idxV h x y) h
@[simp] theorem v_idx : (ev call (.idx a b)).v ρ h = ((ev call a).v ρ h).bind fun x h1 => ((ev call b).v ρ h1).bind fun y h2 => idxR x y h2 := rfl
@[simp] theorem v_slc : (ev call (.slc a lo hi)).v ρ h = ((ev call a).v ρ h).bind fun x h1 => ((ev call lo).o ρ h1).bind fun l h2 => ((ev call hi).o ρ h2).bind fun u h3 => slcV h3 x l u := rfl
@[simp] theorem v_call {f : Nat} : (ev call (.call f es)).v ρ h = ((ev call es).a ρ h).bind fun xs h1 => call f xs h1 := rfl
@[simp] theorem v_blt {b : BI} : (ev call (.blt b es)).v ρ h = ((ev call es).a ρ h).bind fun xs h1 => biV b xs h1 := rfl
def isiR (t : TK) (x : Val) (h : MH) : R Val := R.ofO ((isiV t h x).map .bl) h
@[simp] theorem v_isi {t : TK} : (ev call (.isi t a)).v ρ h = ((ev call a).v ρ h).bind fun x h1 => isiR t x h1 := rfl
@[simp] theorem v_mth {m : MI} : (ev call (.mth m o es)).v ρ h = ((ev call o).v ρ h).bind fun x h1 => if mtT m h1 x then ((ev call es).a ρ h1).bind fun xs h2 => mtV m x xs h2 else .no := rfl
@[simp] theorem v_lc {own : List Nat} {t : NT} : (ev call (.lc own t it cond elt)).v ρ h = ((ev call it).i ρ h).bind fun its h1 => lcLoop h1.length t (wipeR ρ own) (ev call cond).t (ev call elt).v its its.len 0 (h1 ++ [.lst []]) := rfl
@[simp] theorem a_nil : (ev call .nil).a ρ h = .ok [] h := rfl
@[simp] theorem t_nil : (ev call .nil).t ρ h = .ok true h := rfl
@[simp] theorem o_nil : (ev call .nil).o ρ h = .ok none h := rfl
@[simp] theorem a_cons : (ev call (.cons e es)).a ρ h = ((ev call e).v ρ h).bind fun x h1 => ((ev call es).a ρ h1).bind fun xs h2 => .ok (x :: xs) h2 := rfl
@[simp] theorem t_cons : (ev call (.cons e es)).t ρ h = (ev call e).t ρ h := rfl
/-! tests, parts, things walked -/
@[simp] theorem t_var {i : Nat} : (ev call (.var i)).t ρ h = ((ev call (.var i)).v ρ h).bind truR := rfl
@[simp] theorem t_idx : (ev call (.idx a b)).t ρ h = ((ev call (.idx a b)).v ρ h).bind truR := rfl
@[simp] theorem t_call {f : Nat} : (ev call (.call f es)).t ρ h = ((ev call (.call f es)).v ρ h).bind truR := rfl
@[simp] theorem t_isi {t : TK} : (ev call (.isi t a)).t ρ h = ((ev call (.isi t a)).v ρ h).bind truR := rfl
@[simp] theorem t_blt {b : BI} : (ev call (.blt b es)).t ρ h = ((ev call (.blt b es)).v ρ h).bind truR := rfl
@[simp] theorem o_var {i : Nat} : (ev call (.var i)).o ρ h = ((ev call (.var i)).v ρ h).bind intO := rfl
@[simp] theorem o_cst {v : Val} : (ev call (.cst v)).o ρ h = ((ev call (.cst v)).v ρ h).bind intO := rfl
@[simp] theorem o_bin {op : Operator} : (ev call (.bin op a b)).o ρ h = ((ev call (.bin op a b)).v ρ h).bind intO := rfl
@[simp] theorem o_neg : (ev call (.neg a)).o ρ h = ((ev call (.neg a)).v ρ h).bind intO := rfl
@[simp] theorem o_blt {b : BI} : (ev call (.blt b es)).o ρ h = ((ev call (.blt b es)).v ρ h).bind intO := rfl
@[simp] theorem i_var {i : Nat} : (ev call (.var i)).i ρ h = ((ev call (.var i)).v ρ h).bind itR := rfl
@[simp] theorem i_idx : (ev call (.idx a b)).i ρ h = ((ev call (.idx a b)).v ρ h).bind itR := rfl
@[simp] theorem i_slc : (ev call (.slc a lo hi)).i ρ h = ((ev call (.slc a lo hi)).v ρ h).bind itR := rfl
@[simp] theorem i_call {f : Nat} : (ev call (.call f es)).i ρ h = ((ev call (.call f es)).v ρ h).bind itR := rfl
@[simp] theorem i_cst {v : Val} : (ev call (.cst v)).i ρ h = ((ev call (.cst v)).v ρ h).bind itR := rfl
@[simp] theorem i_tup : (ev call (.tup es)).i ρ h = ((ev call (.tup es)).v ρ h).bind itR := rfl
@[simp] theorem i_lst : (ev call (.lst es)).i ρ h = ((ev call (.lst es)).v ρ h).bind itR := rfl
@[simp] theorem i_bin {op : Operator} : (ev call (.bin op a b)).i ρ h = ((ev call (.bin op a b)).v ρ h).bind itR := rfl
def rng1R (x : Val) (h : MH) : R Items := match x with | .int k => if k.natAbs < 4611686018427387904 then .ok (.rng 0 k.toNat) h else .no | _ => .no
@[simp] theorem i_rng1 : (ev call (.rng1 a)).i ρ h = ((ev call a).v ρ h).bind rng1R := rfl
theorem rng1R_ok {k : Int} (h1 : k.natAbs < 4611686018427387904) : rng1R (.int k) h = .ok (.rng 0 k.toNat) h := if_pos h1
/-! operations -/
@[simp] theorem bin_add {i j : Int} : binV .Add (.int i) (.int j) h = .ok (.int (i + j)) h := rfl
@[simp] theorem bin_sub {i j : Int} : binV .Sub (.int i) (.int j) h = .ok (.int (i - j)) h := rfl
theorem bin_mul {i j : Int} (c : i.natAbs.log2 + j.natAbs.log2 < 1000000) : binV .Mult (.int i) (.int j) h = .ok (.int (i * j)) h := if_pos c
theorem bin_fdiv {i j : Int} (c : 0 < j ∧ j.natAbs.log2 < 9000) : binV .FloorDiv (.int i) (.int j) h = .ok (.int (i / j)) h := if_pos c
theorem bin_mod {i j : Int} (c : 0 < j) : binV .Mod (.int i) (.int j) h = .ok (.int (i % j)) h := if_pos c
theorem bin_str {s t : List Nat} (c : s.length + t.length ≤ sizeLine) : binV .Add (.str s) (.str t) h = .ok (.str (s ++ t)) h := if_pos c
@[simp] theorem cmp_lt {i j : Int} : cmpR .Lt (.int i) (.int j) h = .ok (.bl (decide (i < j))) h := rfl
@[simp] theorem cmp_le {i j : Int} : cmpR .LtE (.int i) (.int j) h = .ok (.bl (decide (i ≤ j))) h := rfl
@[simp] theorem cmp_gt {i j : Int} : cmpR .Gt (.int i) (.int j) h = .ok (.bl (decide (j < i))) h := rfl
@[simp] theorem cmp_ge {i j : Int} : cmpR .GtE (.int i) (.int j) h = .ok (.bl (decide (j ≤ i))) h := rfl
@[simp] theorem cmp_eqI {i j : Int} : cmpR .Eq (.int i) (.int j) h = .ok (.bl (i == j)) h := rfl
@[simp] theorem cmp_neI {i j : Int} : cmpR .NotEq (.int i) (.int j) h = .ok (.bl (!(i == j))) h := rfl
@[simp] theorem cmp_eqS {s t : List Nat} : cmpR .Eq (.str s) (.str t) h = .ok (.bl (s == t)) h := rfl
@[simp] theorem cmp_neS {s t : List Nat} : cmpR .NotEq (.str s) (.str t) h = .ok (.bl (!(s == t))) h := rfl
@[simp] theorem cmp_isN : cmpR .Is x .non h = .ok (.bl x.isNon) h := rfl
@[simp] theorem cmp_isntN : cmpR .IsNot x .non h = .ok (.bl (!x.isNon)) h := rfl
@[simp] theorem cmp_inS {c : Nat} {s : List Nat} : cmpR .In (.str [c]) (.str s) h = .ok (.bl (s.contains c)) h := rfl
@[simp] theorem cmp_ninS {c : Nat} {s : List Nat} : cmpR .NotIn (.str [c]) (.str s) h = .ok (.bl (!s.contains c)) h := rfl
@[simp] theorem idx_tup {xs : List Val} {i : Int} : idxR (.tup xs) (.int i) h = R.ofO (atI xs i) h := rfl
@[simp] theorem idx_fro {xs : List Val} {i : Int} : idxR (.fro xs) (.int i) h = R.ofO (atI xs i) h := rfl
@[simp] theorem idx_str {s : List Nat} {i : Int} : idxR (.str s) (.int i) h = R.ofO ((atI s i).map fun c => Val.str [c]) h := rfl
theorem idx_loc {n : Nat} {i : Int} {vs : List Val} (hn : h[n]? = some (.lst vs)) : idxR (.loc n) (.int i) h = R.ofO (atI vs i) h := by
  simp [idxR, idxV, seqL, hn]
@[simp] theorem bi_lenS {s : List Nat} : biV .len [.str s] h = .ok (.int s.length) h := rfl
@[simp] theorem bi_lenT {s : List Val} : biV .len [.tup s] h = .ok (.int s.length) h := rfl
@[simp] theorem bi_lenF {s : List Val} : biV .len [.fro s] h = .ok (.int s.length) h := rfl
theorem bi_lenL {n : Nat} {vs : List Val} (hn : h[n]? = some (.lst vs)) : biV .len [.loc n] h = .ok (.int vs.length) h := by
  simp [biV, seqL, hn]
@[simp] theorem bi_int {i : Int} : biV .int [.int i] h = .ok (.int i) h := rfl
theorem bi_str {i : Int} (c : i.natAbs.log2 < 1920 ∧ (strInt i).length ≤ sizeLine) : biV .str [.int i] h = .ok (.str (strInt i)) h := if_pos c
@[simp] theorem bi_tupT {xs : List Val} : biV .tuple [.tup xs] h = .ok (.tup xs) h := rfl
theorem bi_tupL {n : Nat} {vs : List Val} (hn : h[n]? = some (.lst vs)) : biV .tuple [.loc n] h = .ok (.tup vs) h := by
  simp [biV, seqL, hn]
@[simp] theorem bi_listT {xs : List Val} : biV .list [.tup xs] h = .ok (.loc h.length) (h ++ [.lst xs]) := rfl
theorem bi_listL {n : Nat} {vs : List Val} (hn : h[n]? = some (.lst vs)) : biV .list [.loc n] h = .ok (.loc h.length) (h ++ [.lst vs]) := by
  simp [biV, seqL, hn]
@[simp] theorem slc_str {s : List Nat} {l u : Option Int} : slcV h (.str s) l u = .ok (.str (cutL s l u)) h := rfl
@[simp] theorem slc_tup {s : List Val} {l u : Option Int} : slcV h (.tup s) l u = .ok (.tup (cutL s l u)) h := rfl
@[simp] theorem slc_fro {s : List Val} {l u : Option Int} : slcV h (.fro s) l u = .ok (.loc h.length) (h ++ [.lst (cutL s l u)]) := rfl
theorem tupR_ok {xs : List Val} (c : xs.length ≤ sizeLine) : tupR xs h = .ok (.tup xs) h := if_pos c
theorem lstR_ok {xs : List Val} (c : xs.length ≤ sizeLine) : lstR xs h = .ok (.loc h.length) (h ++ [.lst xs]) := if_pos c
theorem set_loc {n j : Nat} {k : Int} {vs : List Val} {v : Val} (hn : h[n]? = some (.lst vs)) (hj : ixN vs.length k = some j) : setV (.loc n) (.int k) v h = .ok () (h.set n (.lst (vs.set j v))) := by
  simp [setV, hn, hj]
theorem mt_append {n : Nat} {vs : List Val} {v : Val} (hn : h[n]? = some (.lst vs)) (c : vs.length < sizeLine) : mtV .append (.loc n) [v] h = .ok .non (h.set n (.lst (vs ++ [v]))) := by
  simp [mtV, hn, c]
theorem mtT_loc {n : Nat} {vs : List Val} (hn : h[n]? = some (.lst vs)) : mtT .append h (.loc n) = true ∧ mtT .pop h (.loc n) = true ∧ mtT .extend h (.loc n) = true := by
  simp [mtT, seqL, hn]
@[simp] theorem mtT_join {s : List Nat} : mtT .join h (.str s) = true := rfl
@[simp] theorem mtT_split {s : List Nat} : mtT .split h (.str s) = true := rfl
/-! statements -/
variable {s s1 s2 : S}
@[simp] theorem e_skip : evS call .skip ρ h = .nx ρ h := rfl
@[simp] theorem e_seq : evS call (.seq s1 s2) ρ h = (evS call s1 ρ h).andThen (evS call s2) := rfl
def asgR (t : NT) (ρ : Rho) (v : Val) (h : MH) : RS := match setN t v ρ with | some ρ' => .nx ρ' h | Option.none => .no
@[simp] theorem e_asg {t : NT} : evS call (.asg (.nt t) e) ρ h = ((ev call e).v ρ h).toS ρ (asgR t ρ) := rfl
@[simp] theorem asgR_nm {i : Nat} {v : Val} : asgR (.nm i) ρ v h = .nx (ρ.set i (some v)) h := rfl
@[simp] theorem e_sub {a b : E} : evS call (.asg (.sub a b) e) ρ h = ((ev call e).v ρ h).toS ρ fun v h1 => ((ev call a).v ρ h1).toS ρ fun x h2 => ((ev call b).v ρ h2).toS ρ fun y h3 => (setV x y v h3).toS ρ fun _ h4 => .nx ρ h4 := rfl
def augR (i : Nat) (op : Operator) (ρ : Rho) (x : Option Val) (r : R Val) : RS := match x, augF op with
      | some (.int a), some f => r.toS ρ fun y h1 => match y with
        | .int b => .nx (ρ.set i (some (.int (f a b)))) h1
        | _ => .no
      | _, _ => .no
@[simp] theorem e_aug {i : Nat} {op : Operator} : evS call (.aug i op e) ρ h = augR i op ρ (ρ[i]?).join ((ev call e).v ρ h) := rfl
@[simp] theorem augR_add {i : Nat} {a b : Int} : augR i .Add ρ (some (.int a)) (.ok (.int b) h) = .nx (ρ.set i (some (.int (a + b)))) h := rfl
@[simp] theorem augR_sub {i : Nat} {a b : Int} : augR i .Sub ρ (some (.int a)) (.ok (.int b) h) = .nx (ρ.set i (some (.int (a - b)))) h := rfl
@[simp] theorem e_expr : evS call (.expr e) ρ h = ((ev call e).v ρ h).toS ρ fun _ h1 => .nx ρ h1 := rfl
@[simp] theorem e_ret : evS call (.ret e) ρ h = ((ev call e).v ρ h).toS ρ fun v h1 => .rt v h1 := rfl
@[simp] theorem e_retn : evS call .retn ρ h = .rt .non h := rfl
@[simp] theorem e_ite : evS call (.ite c s1 s2) ρ h = ((ev call c).t ρ h).toS ρ fun x h1 => if x then evS call s1 ρ h1 else evS call s2 ρ h1 := rfl
@[simp] theorem e_whl : evS call (.whl c s) ρ h = whl (ev call c).t (evS call s) manyTurns ρ h := rfl
@[simp] theorem e_for {t : NT} : evS call (.for_ t it s) ρ h = ((ev call it).i ρ h).toS ρ fun its h1 => forL t (evS call s) its its.len 0 ρ h1 := rfl
@[simp] theorem e_brk : evS call .brk ρ h = .bk ρ h := rfl
@[simp] theorem e_cnt : evS call .cnt ρ h = .ct ρ h := rfl
@[simp] theorem e_never : evS call .never ρ h = .no := rfl
end
theorem atI_lt {α : Type} {xs : List α} {i : Nat} {v : α} (h : xs[i]? = some v) : atI xs (i : Int) = some v := atI_nat h
@[simp] theorem atI_0 {α : Type} {a : α} {r : List α} : atI (a :: r) 0 = some a := atI_nat (j := 0) rfl
@[simp] theorem atI_1 {α : Type} {a b : α} {r : List α} : atI (a :: b :: r) 1 = some b := atI_nat (j := 1) rfl
@[simp] theorem atI_2 {α : Type} {a b c : α} {r : List α} : atI (a :: b :: c :: r) 2 = some c := atI_nat (j := 2) rfl
@[simp] theorem atI_3 {α : Type} {a b c d : α} {r : List α} : atI (a :: b :: c :: d :: r) 3 = some d := atI_nat (j := 3) rfl
@[simp] theorem atI_4 {α : Type} {a b c d e : α} {r : List α} : atI (a :: b :: c :: d :: e :: r) 4 = some e := atI_nat (j := 4) rfl
@[simp] theorem atI_5 {α : Type} {a b c d e f : α} {r : List α} : atI (a :: b :: c :: d :: e :: f :: r) 5 = some f := atI_nat (j := 5) rfl
@[simp] theorem atI_6 {α : Type} {a b c d e f g : α} {r : List α} : atI (a :: b :: c :: d :: e :: f :: g :: r) 6 = some g := atI_nat (j := 6) rfl
@[simp] theorem atI_7 {α : Type} {a b c d e f g i : α} {r : List α} : atI (a :: b :: c :: d :: e :: f :: g :: i :: r) 7 = some i := atI_nat (j := 7) rfl
def fin (r : RS) : R Val := match r with
        | .rt v h' => .ok v h'
        | .nx _ h' => .ok .non h'
        | _ => .no
@[simp] theorem fin_rt {v : Val} {h : MH} : fin (.rt v h) = .ok v h := rfl
@[simp] theorem fin_nx {ρ : Rho} {h : MH} : fin (.nx ρ h) = .ok .non h := rfl
theorem callK_s {ft : List Fn} {k f : Nat} {vs : List Val} {h : MH} {F : Fn} (e : ft[f]? = some F) (hn : vs.length = F.np) (hl : F.np ≤ F.nn) :
    callK ft (k + 1) f vs h = fin (evS (callK ft k) F.body (vs.map some ++ List.replicate (F.nn - vs.length) Option.none) h) := by
  have q : callK ft (k + 1) f vs h = (match ft[f]? with
    | some F => if vs.length = F.np ∧ F.np ≤ F.nn then fin (evS (callK ft k) F.body (vs.map some ++ List.replicate (F.nn - vs.length) Option.none) h) else R.no
    | Option.none => R.no) := rfl
  rw [q, e]
  exact if_pos ⟨hn, hl⟩
end Gu
end

section
set_option linter.all false
set_option Elab.async false
/-! Gw: what holds behind a piece of the small language. -/
namespace Gu
open PySem L2
def Ok {α : Type} (r : R α) (P : α → MH → Prop) : Prop := ∃ a h, r = .ok a h ∧ P a h
def OkD (r : RS) (N : Rho → MH → Prop) (T : Val → MH → Prop) (B C : Rho → MH → Prop) : Prop :=
  match r with
  | .nx ρ h => N ρ h
  | .rt v h => T v h
  | .bk ρ h => B ρ h
  | .ct ρ h => C ρ h
  | _ => False
structure OkS (r : RS) (N : Rho → MH → Prop) (T : Val → MH → Prop) (B C : Rho → MH → Prop) : Prop where
  mk_ ::
  ok : OkD r N T B C
section
variable {α β : Type} {P Q : α → MH → Prop} {N N' : Rho → MH → Prop} {T T' : Val → MH → Prop} {B B' C C' : Rho → MH → Prop} {ρ : Rho} {h : MH}
@[simp] theorem Ok_ok {a : α} : Ok (.ok a h) P ↔ P a h := by
  constructor
  · rintro ⟨a, h, e, p⟩; cases e; exact p
  · intro p; exact ⟨_, _, rfl, p⟩
@[simp] theorem Ok_bind {r : R β} {f : β → MH → R α} : Ok (r.bind f) P ↔ Ok r (fun a h => Ok (f a h) P) := by
  cases r with
  | no => simp [Ok]
  | ok a h => show Ok (f a h) P ↔ Ok (.ok a h) _; rw [Ok_ok]
  | ex a b c => simp [Ok]
@[simp] theorem Ok_some {a : α} : Ok (R.ofO (some a) h) P ↔ P a h := Ok_ok
@[simp] theorem Ok_if {c : Prop} [Decidable c] {r s : R α} : Ok (if c then r else s) P ↔ (c → Ok r P) ∧ (¬c → Ok s P) := by
  by_cases c <;> simp [*]
theorem Ok.mono {r : R α} (o : Ok r P) (i : ∀ a h, P a h → Q a h) : Ok r Q := by
  obtain ⟨a, h, e, p⟩ := o; exact ⟨a, h, e, i a h p⟩
theorem OkS_d {r : RS} : OkS r N T B C ↔ OkD r N T B C := ⟨fun x => x.ok, fun x => ⟨x⟩⟩
@[simp] theorem OkS_nx : OkS (.nx ρ h) N T B C ↔ N ρ h := OkS_d
@[simp] theorem OkS_rt {v : Val} : OkS (.rt v h) N T B C ↔ T v h := OkS_d
@[simp] theorem OkS_bk : OkS (.bk ρ h) N T B C ↔ B ρ h := OkS_d
@[simp] theorem OkS_ct : OkS (.ct ρ h) N T B C ↔ C ρ h := OkS_d
@[simp] theorem OkS_no : OkS .no N T B C ↔ False := OkS_d
@[simp] theorem OkS_exx {c : Nat} {as : List Val} : OkS (.ex c as ρ h) N T B C ↔ False := OkS_d
@[simp] theorem OkS_then {r : RS} {f : Rho → MH → RS} : OkS (r.andThen f) N T B C ↔ OkS r (fun ρ h => OkS (f ρ h) N T B C) T B C := by
  cases r <;> simp [RS.andThen]
@[simp] theorem OkS_toS {r : R α} {f : α → MH → RS} : OkS (r.toS ρ f) N T B C ↔ Ok r (fun a h => OkS (f a h) N T B C) := by
  cases r with
  | no => simp [Ok]
  | ok a h => show OkS (f a h) N T B C ↔ Ok (.ok a h) _; rw [Ok_ok]
  | ex a b c => simp [Ok]
@[simp] theorem OkS_if {c : Prop} [Decidable c] {r s : RS} : OkS (if c then r else s) N T B C ↔ (c → OkS r N T B C) ∧ (¬c → OkS s N T B C) := by
  by_cases c <;> simp [*]
theorem OkS.mono {r : RS} (o : OkS r N T B C) (n : ∀ ρ h, N ρ h → N' ρ h) (t : ∀ v h, T v h → T' v h) (b : ∀ ρ h, B ρ h → B' ρ h) (c : ∀ ρ h, C ρ h → C' ρ h) : OkS r N' T' B' C' := by
  cases r <;> simp at o ⊢ <;> first | exact n _ _ o | exact t _ _ o | exact b _ _ o | exact c _ _ o
/-- in two parts -/
theorem OkS_cut {r : RS} {f : Rho → MH → RS} (M : Rho → MH → Prop) (o : OkS r M T B C) (n : ∀ ρ h, M ρ h → OkS (f ρ h) N T B C) : OkS r (fun ρ h => OkS (f ρ h) N T B C) T B C :=
  o.mono n (fun _ _ p => p) (fun _ _ p => p) (fun _ _ p => p)
theorem Ok_call {ft : List Fn} {k f : Nat} {vs : List Val} {h : MH} {F : Fn} {P : Val → MH → Prop} (e : ft[f]? = some F) (hn : vs.length = F.np) (hl : F.np ≤ F.nn)
    (H : OkS (evS (callK ft k) F.body (vs.map some ++ List.replicate (F.nn - vs.length) Option.none) h) (fun _ h => P .non h) P (fun _ _ => False) (fun _ _ => False)) : Ok (callK ft (k + 1) f vs h) P := by
  rw [callK_s e hn hl]
  rw [OkS_d] at H
  revert H
  cases evS (callK ft k) F.body (vs.map some ++ List.replicate (F.nn - vs.length) Option.none) h <;> first | exact fun p => p.elim | exact fun p => ⟨_, _, rfl, p⟩
/-- a loop by a measure -/
theorem whl_ok {c : Rho → MH → R Bool} {b : Rho → MH → RS} (I : Nat → Rho → MH → Prop)
    (step : ∀ m ρ h, I m ρ h → Ok (c ρ h) fun x h1 => (x = true → OkS (b ρ h1) (fun ρ' h' => ∃ m', m' < m ∧ I m' ρ' h') T N (fun ρ' h' => ∃ m', m' < m ∧ I m' ρ' h')) ∧ (x = false → N ρ h1)) :
    ∀ (n m : Nat) (ρ : Rho) (h : MH), m < n → I m ρ h → OkS (whl c b n ρ h) N T B C := by
  intro n
  induction n with
  | zero => intro m ρ h hm; omega
  | succ n ih =>
    intro m ρ h hm i
    have s := step m ρ h i
    show OkS ((c ρ h).toS ρ _) N T B C
    rw [OkS_toS]
    refine s.mono ?_
    intro x h1 ⟨p, q⟩
    cases x with
    | false => simpa using q rfl
    | true =>
      have p := p rfl
      simp only [if_true]
      rw [OkS_d] at p ⊢
      revert p
      cases b ρ h1 with
      | nx ρ' h' => rintro ⟨m', l, i'⟩; exact (ih m' ρ' h' (by omega) i').ok
      | ct ρ' h' => rintro ⟨m', l, i'⟩; exact (ih m' ρ' h' (by omega) i').ok
      | bk ρ' h' => exact fun p => p
      | rt v h' => exact fun p => p
      | no => exact fun p => p.elim
      | ex a b c d => exact fun p => p.elim
/-- a for loop by its turns -/
theorem forL_ok {t : NT} {b : Rho → MH → RS} {it : Items} (I : Nat → Rho → MH → Prop)
    (step : ∀ i ρ h, i < it.len → I i ρ h → ∃ x ρ1, it.get h i = some x ∧ setN t x ρ = some ρ1 ∧ OkS (b ρ1 h) (I (i + 1)) T N (I (i + 1)))
    (last : ∀ ρ h, I it.len ρ h → it.fin h = true ∧ N ρ h) :
    ∀ (m i : Nat) (ρ : Rho) (h : MH), i + m = it.len → I i ρ h → OkS (forL t b it m i ρ h) N T B C := by
  intro m
  induction m with
  | zero =>
    intro i ρ h e p
    have e : i = it.len := by omega
    subst e
    have l := last ρ h p
    show OkS (if it.fin h then .nx ρ h else .no) N T B C
    rw [if_pos l.1]; exact OkS_d.2 l.2
  | succ m ih =>
    intro i ρ h e p
    obtain ⟨x, ρ1, g, s, o⟩ := step i ρ h (by omega) p
    show OkS (match it.get h i with
      | some x => match setN t x ρ with
        | some ρ1 => match b ρ1 h with
          | .nx ρ' h' => forL t b it m (i + 1) ρ' h'
          | .ct ρ' h' => forL t b it m (i + 1) ρ' h'
          | .bk ρ' h' => .nx ρ' h'
          | r => r
        | Option.none => .no
      | Option.none => .no) N T B C
    rw [g]; simp only [s]
    rw [OkS_d] at o ⊢
    revert o
    cases b ρ1 h with
    | nx ρ' h' => exact fun i' => (ih _ ρ' h' (by omega) i').ok
    | ct ρ' h' => exact fun i' => (ih _ ρ' h' (by omega) i').ok
    | bk ρ' h' => exact fun p => p
    | rt v h' => exact fun p => p
    | no => exact fun p => p.elim
    | ex a b c d => exact fun p => p.elim
/-- over a range -/
theorem forR_ok {i0 : Nat} {b : Rho → MH → RS} {lo : Int} {n : Nat} (I : Nat → Rho → MH → Prop)
    (step : ∀ i ρ h, i < n → I i ρ h → OkS (b (ρ.set i0 (some (.int (lo + i)))) h) (I (i + 1)) T N (I (i + 1)))
    (last : ∀ ρ h, I n ρ h → N ρ h) (o : I 0 ρ h) :
    OkS (forL (.nm i0) b (.rng lo n) n 0 ρ h) N T B C :=
  forL_ok (it := .rng lo n) I (fun i ρ h l p => ⟨_, _, rfl, rfl, step i ρ h l p⟩) (fun ρ h p => ⟨rfl, last ρ h p⟩) n 0 ρ h (by simp [Items.len]) o
/-- over values -/
theorem forV_ok {i0 : Nat} {b : Rho → MH → RS} {xs : List Val} (I : Nat → Rho → MH → Prop)
    (step : ∀ i ρ h x, xs[i]? = some x → I i ρ h → OkS (b (ρ.set i0 (some x)) h) (I (i + 1)) T N (I (i + 1)))
    (last : ∀ ρ h, I xs.length ρ h → N ρ h) (o : I 0 ρ h) :
    OkS (forL (.nm i0) b (.vals xs) xs.length 0 ρ h) N T B C :=
  forL_ok (it := .vals xs) I (fun i ρ h l p => ⟨xs[i]'(by simpa [Items.len] using l), _, List.getElem?_eq_getElem (by simpa [Items.len] using l), rfl, step i ρ h _ (List.getElem?_eq_getElem (by simpa [Items.len] using l)) p⟩) (fun ρ h p => ⟨rfl, last ρ h p⟩) xs.length 0 ρ h (by simp [Items.len]) o
end
/-! lists -/
theorem atI_mem {α : Type} {s : List α} {n : Nat} (l : n < s.length) : ∃ c, atI s (n : Int) = some c ∧ s[n]? = some c ∧ c ∈ s :=
  ⟨s[n], atI_lt (List.getElem?_eq_getElem l), List.getElem?_eq_getElem l, List.getElem_mem l⟩
/-- the heap but one place stays -/
def Fr (d : Nat) (h h' : MH) : Prop := h.length ≤ h'.length ∧ ∀ n, n < h.length → n ≠ d → h'[n]? = h[n]?
theorem Fr.refl (d : Nat) (h : MH) : Fr d h h := ⟨Nat.le_refl _, fun _ _ _ => rfl⟩
theorem Fr.trans {d : Nat} {h h1 h2 : MH} (a : Fr d h h1) (b : Fr d h1 h2) : Fr d h h2 :=
  ⟨Nat.le_trans a.1 b.1, fun n l e => by rw [b.2 n (by have := a.1; omega) e, a.2 n l e]⟩
theorem Fr.set (d : Nat) (h : MH) (o : MO) : Fr d h (h.set d o) := by
  refine ⟨by simp, fun n l e => ?_⟩
  rw [List.getElem?_set]; simp [Ne.symm e]
theorem Fr.app (d : Nat) (h : MH) (os : List MO) : Fr d h (h ++ os) :=
  ⟨by simp, fun n l e => by rw [List.getElem?_append_left l]⟩
theorem Fr.get {d n : Nat} {h h' : MH} {o : MO} (f : Fr d h h') (e : n ≠ d) (g : h[n]? = some o) : h'[n]? = some o := by
  have l : n < h.length := by
    rcases Nat.lt_or_ge n h.length with l | l
    · exact l
    · rw [List.getElem?_eq_none l] at g; cases g
  rw [f.2 n l e]; exact g
end Gu
namespace Gu
open PySem L2
theorem set_ok {n j : Nat} {k : Int} {vs : List Val} {v : Val} {h : MH} {P : Unit → MH → Prop} (hn : h[n]? = some (.lst vs)) (hj : ixN vs.length k = some j)
    (H : ∀ h', h'[n]? = some (.lst (vs.set j v)) → Fr n h h' → P () h') : Ok (setV (.loc n) (.int k) v h) P := by
  rw [set_loc hn hj, Ok_ok]
  apply H _ _ (Fr.set _ _ _)
  have l : n < h.length := by
    rcases Nat.lt_or_ge n h.length with l | l
    · exact l
    · rw [List.getElem?_eq_none l] at hn; cases hn
  rw [List.getElem?_set_self l]
theorem lg {i : Int} {n : Nat} (h : i.natAbs < 2 ^ n) : i.natAbs.log2 ≤ n := by
  rcases Nat.eq_zero_or_pos i.natAbs with e | e
  · rw [e]; simp
  · have := (Nat.log2_lt (by omega)).2 h; omega
/-- the draws' list: where it stands, how many were made at most -/
def Dr (h : MH) (d B : Nat) : Prop := ∃ (c : Nat) (a b e : Int) (cs : List Int), h[d]? = some (.lst [.loc c, .int a, .int b, .int e]) ∧ h[c]? = some (.lst (cs.map .int)) ∧ c < d ∧ 0 ≤ a ∧ a ≤ cs.length ∧ 0 ≤ b ∧ 0 ≤ e ∧ e ≤ B
theorem Dr.mono {h : MH} {d B B' : Nat} (x : Dr h d B) (l : B ≤ B') : Dr h d B' := by
  obtain ⟨c, a, b, e, cs, h1, h2, h3, h4, h5, h6, h7, h8⟩ := x
  exact ⟨c, a, b, e, cs, h1, h2, h3, h4, h5, h6, h7, by omega⟩
theorem Dr.lt {h : MH} {d B : Nat} (x : Dr h d B) : d < h.length := by
  obtain ⟨c, a, b, e, cs, h1, h2⟩ := x
  rcases Nat.lt_or_ge d h.length with l | l
  · exact l
  · rw [List.getElem?_eq_none l] at h1; cases h1
theorem Dr.fr {h h' : MH} {d u B : Nat} (x : Dr h d B) (l : d < u) (f : Fr u h h') : Dr h' d B := by
  obtain ⟨c, a, b, e, cs, h1, h2, h3, h4⟩ := x
  exact ⟨c, a, b, e, cs, f.get (by omega) h1, f.get (by omega) h2, h3, h4⟩
theorem Dr.app {h : MH} {d B : Nat} (x : Dr h d B) (os : List MO) : Dr (h ++ os) d B := by
  obtain ⟨c, a, b, e, cs, h1, h2, h3, h4⟩ := x
  refine ⟨c, a, b, e, cs, ?_, ?_, h3, h4⟩
  · have l : d < h.length := by
      rcases Nat.lt_or_ge d h.length with l | l
      · exact l
      · rw [List.getElem?_eq_none l] at h1; cases h1
    rw [List.getElem?_append_left l]; exact h1
  · have l : c < h.length := by
      rcases Nat.lt_or_ge c h.length with l | l
      · exact l
      · rw [List.getElem?_eq_none l] at h2; cases h2
    rw [List.getElem?_append_left l]; exact h2
theorem atI_last {α : Type} {s : List α} (l : s ≠ []) : ∃ v, atI s (-1) = some v ∧ v ∈ s := by
  have q : 0 < s.length := List.length_pos_iff.2 l
  refine ⟨s[s.length - 1], ?_, List.getElem_mem _⟩
  unfold atI ixN
  rw [if_neg (by decide), if_pos (by omega)]
  have : (-1 + (s.length : Int)).toNat = s.length - 1 := by omega
  simp only [Option.bind_some, this]
  exact List.getElem?_eq_getElem (by omega)
@[simp] theorem bin_pow18 {h : MH} : binV .Pow (.int 10) (.int 18) h = .ok (.int 1000000000000000000) h := rfl
end Gu
end

section
set_option linter.all false
set_option Elab.async false
namespace Gu
open PySem L2
def BIG : Nat := 1000000000000
abbrev nxt (P : Val → MH → Prop) : Rho → MH → Prop := fun _ h => P .non h
abbrev nw0 : Rho → MH → Prop := fun _ _ => False
theorem lg48 : (48271 : Int).natAbs.log2 ≤ 20 := by decide
theorem fill_ok {h : MH} {d B k : Nat} {c : Nat} {a b e : Int} {cs : List Int} {P : Val → MH → Prop} (hd : h[d]? = some (.lst [.loc c, .int a, .int b, .int e])) (hc : h[c]? = some (.lst (cs.map .int))) (cd : c < d)
    (h0 : 0 ≤ a) (h1 : a ≤ cs.length) (h3 : 0 ≤ e) (h4 : e ≤ B) (hB : B < BIG)
    (H : ∀ (n : Int) (a' : Int) (h' : MH), 0 ≤ n → 0 ≤ a' → a' ≤ cs.length → h'[d]? = some (.lst [.loc c, .int a', .int b, .int (e + 1)]) → Fr d h h' → P (.int n) h') :
    Ok (callK ft (k + 1) i__law_fill [.loc d] h) P := by
  have hB : B < 1000000000000 := hB
  have m1 : (e+1).natAbs.log2 + (69621 : Int).natAbs.log2 < 1000000 := by have := lg (i := e + 1) (n := 64) (by omega); have := lg (i := 69621) (n := 20) (by decide); omega
  have m2 : (e+1).natAbs.log2 + (7919 : Int).natAbs.log2 < 1000000 := by have := lg (i := e + 1) (n := 64) (by omega); have := lg (i := 7919) (n := 20) (by decide); omega
  have R2 : ∀ (n a' : Int) (h' : MH), 0 ≤ n → n < 2 ^ 64 → 0 ≤ a' → a' ≤ cs.length → h'[d]? = some (.lst [.loc c, .int a', .int b, .int (e + 1)]) → Fr d h h' →
      OkS (evS (callK ft k) r__law_fill_2 [some (.loc d), some (.int n)] h') (nxt P) P nw0 nw0 := by
    intro n a' h' n0 n1 a0 a1 hd' f
    have q1 : n.natAbs.log2 + (48271 : Int).natAbs.log2 < 1000000 := by have := lg (i := n) (n := 64) (by omega); have := lg48; omega
    have q2 : ∀ m : Int, m = (n * 48271 + (e + 1) * 69621) % 2147483647 → m.natAbs.log2 + m.natAbs.log2 < 1000000 := by
      intro m hm
      have : 0 ≤ m := by rw [hm]; exact Int.emod_nonneg _ (by decide)
      have : m < 2147483647 := by rw [hm]; exact Int.emod_lt_of_pos _ (by decide)
      have := lg (i := m) (n := 32) (by omega); omega
    simp only [r__law_fill_2]
    simp [idx_loc hd', bin_mul m1, bin_mul m2, bin_mul q1, bin_mod, bin_mul (q2 _ rfl), bin_fdiv (show (0:Int) < 64 ∧ (64 : Int).natAbs.log2 < 9000 by decide)]
    refine H _ a' h' ?_ a0 a1 hd' f
    generalize hm : (n * 48271 + (e + 1) * 69621) % 2147483647 = m
    have z : 0 ≤ m * m := by have : 0 ≤ m := by rw [← hm]; exact Int.emod_nonneg _ (by decide)
                             exact Int.mul_nonneg this this
    omega
  have R3 : ∀ (n a' : Int) (h' : MH), 0 ≤ n → n < 2 ^ 63 → 0 ≤ a' → a' ≤ cs.length → h'[d]? = some (.lst [.loc c, .int a', .int b, .int (e + 1)]) → Fr d h h' →
      OkS (evS (callK ft k) r__law_fill_3 [some (.loc d), some (.int n)] h') (nxt P) P nw0 nw0 := by
    intro n a' h' n0 n1 a0 a1 hd' f
    have hc' := f.get (by omega) hc
    simp only [r__law_fill_3]
    simp [idx_loc hd', bi_lenL hc', truR_loc hc', idx_loc hc']
    have w : ∀ (x : Int) , OkS (evS (callK ft k) r__law_fill_2 [some (.loc d), some (.int (n + x % 1000003))] h') (nxt P) P nw0 nw0 := by
      intro x
      have : 0 ≤ x % 1000003 := Int.emod_nonneg _ (by decide)
      have : x % 1000003 < 1000003 := Int.emod_lt_of_pos _ (by decide)
      exact R2 _ a' h' (by omega) (by omega) a0 a1 hd' f
    constructor
    · intro l; exact R2 n a' h' n0 (by omega) a0 a1 hd' f
    · intro l
      constructor
      · intro l2
        obtain ⟨v, ev, mv⟩ := atI_last (s := cs.map Val.int) (by simpa using l)
        rw [ev]
        obtain ⟨x, _, rfl⟩ := List.mem_map.1 mv
        simp [bin_mod]
        exact w x
      · intro l2; exact R2 n a' h' n0 (by omega) a0 a1 hd' f
  apply Ok_call (F := ⟨1, 2, b__law_fill⟩) rfl rfl (by decide)
  simp only [b__law_fill]
  simp [idx_loc hd]
  apply set_ok hd rfl
  intro h1' hd1 f1
  have hc1 := f1.get (by omega) hc
  simp [idx_loc hd1, bin_mul m1, bi_lenL hc1, idx_loc hc1]
  constructor
  · intro l
    have l' : a.toNat < (cs.map Val.int).length := by simp; omega
    obtain ⟨v, ev, ev2, mv⟩ := atI_mem l'
    obtain ⟨x, _, rfl⟩ := List.mem_map.1 mv
    rw [Int.toNat_of_nonneg h0] at ev
    rw [ev]
    simp [idx_loc hd1]
    apply set_ok hd1 rfl
    intro h2 hd2 f2
    have w : ∀ x : Int, 0 ≤ x → OkS (evS (callK ft k) r__law_fill_1 [some (.loc d), some (.int x)] h2) (fun ρ h => OkS (evS (callK ft k) r__law_fill_3 ρ h) (nxt P) P nw0 nw0) P nw0 nw0 := by
      intro x x0
      simp [r__law_fill_1]
      constructor
      · intro g; exact H x (a + 1) h2 x0 (by omega) (by omega) (by simpa using hd2) (f1.trans f2)
      · intro g; exact R3 x (a + 1) h2 x0 (by omega) (by omega) (by omega) (by simpa using hd2) (f1.trans f2)
    constructor
    · intro g; exact w _ (by omega)
    · intro g; exact w _ (by omega)
  · intro l
    exact R3 _ a h1' (by omega) (by omega) h0 h1 (by simpa using hd1) f1
theorem take_ok {h : MH} {d B k : Nat} {many : Int} {P : Val → MH → Prop} (D : Dr h d B) (hm : 0 < many) (hl : many.natAbs.log2 < 9000) (hB : B < BIG)
    (H : ∀ (n : Nat) (h' : MH), (n : Int) < many → Dr h' d (B + 1) → Fr d h h' → P (.int n) h') :
    Ok (callK ft (k + 2) i__law_take [.loc d, .int many] h) P := by
  obtain ⟨c, a, b, e, cs, hd, hc, cd, a0, a1, b0, e0, e1⟩ := D
  have R : ∀ (b' a' e' : Int) (h' : MH), 0 ≤ b' → 0 ≤ a' → a' ≤ cs.length → 0 ≤ e' → e' ≤ e + 1 → h'[d]? = some (.lst [.loc c, .int a', .int b', .int e']) → Fr d h h' →
      OkS (evS (callK ft (k + 1)) r__law_take_1 [some (.loc d), some (.int many), none] h') (nxt P) P nw0 nw0 := by
    intro b' a' e' h' q0 q1 q2 q3 q4 hd' f
    simp [r__law_take_1, idx_loc hd', bin_mod hm, bin_fdiv ⟨hm, hl⟩]
    apply set_ok hd' rfl
    intro h2 hd2 f2
    have z0 : 0 ≤ b' % many := Int.emod_nonneg _ (by omega)
    have z1 : b' % many < many := Int.emod_lt_of_pos _ hm
    have := H (b' % many).toNat h2 (by omega) ⟨c, a', b' / many, e', cs, by simpa using hd2, (f.trans f2).get (by omega) hc, cd, q1, q2, Int.ediv_nonneg q0 (by omega), q3, by omega⟩ (f.trans f2)
    rwa [Int.toNat_of_nonneg z0] at this
  apply Ok_call (F := ⟨2, 3, b__law_take⟩) rfl rfl (by decide)
  simp [b__law_take, idx_loc hd]
  constructor
  · intro l
    apply fill_ok hd hc cd a0 a1 e0 e1 hB
    intro n a' h' n0 q0 q1 hd' f
    apply set_ok hd' rfl
    intro h2 hd2 f2
    exact R n a' (e + 1) h2 n0 q0 q1 (by omega) (by omega) (by simpa using hd2) (f.trans f2)
  · intro l
    exact R b a e h b0 a0 a1 e0 (by omega) hd (Fr.refl _ _)
end Gu
end

section
set_option linter.all false
set_option Elab.async false
namespace Gu
open PySem L2
/-- a comprehension by its turns -/
theorem lcLoop_ok {D : Nat} {t : NT} {ρ : Rho} {cnd : Rho → MH → R Bool} {elt : Rho → MH → R Val} {it : Items} {P : Val → MH → Prop} (I : Nat → MH → Prop)
    (step : ∀ i h, i < it.len → I i h → ∃ x ρ', it.get h i = some x ∧ setN t x ρ = some ρ' ∧ Ok (cnd ρ' h) fun c h0 => (c = true → Ok (elt ρ' h0) fun y h1 => ∃ acc, h1[D]? = some (.lst acc) ∧ acc.length < sizeLine ∧ I (i + 1) (h1.set D (.lst (acc ++ [y])))) ∧ (c = false → I (i + 1) h0))
    (last : ∀ h, I it.len h → it.fin h = true ∧ P (.loc D) h) :
    ∀ (m i : Nat) (h : MH), i + m = it.len → I i h → Ok (lcLoop D t ρ cnd elt it m i h) P := by
  intro m
  induction m with
  | zero =>
    intro i h e p
    have e : i = it.len := by omega
    subst e
    have l := last h p
    show Ok (if it.fin h then .ok (.loc D) h else .no) P
    rw [if_pos l.1, Ok_ok]; exact l.2
  | succ m ih =>
    intro i h e p
    obtain ⟨x, ρ', g, s, c, h0, ec, o1, o2⟩ := step i h (by omega) p
    unfold lcLoop
    rw [g]; simp only [s, ec]
    cases c with
    | true =>
      obtain ⟨y, h1, ee, acc, ea, la, i'⟩ := o1 rfl
      simp only [ee, ea, if_pos la]
      exact ih _ _ (by omega) i'
    | false => exact ih _ _ (by omega) (o2 rfl)
theorem start_ok {ns : List Int} {k : Nat} {P : Val → MH → Prop} (hl : ns.length ≤ 63) (H : ∀ h, Dr h 2 0 → h.length = 3 → P (.loc 2) h) : Ok (callK ft (k + 1) i__law_start [.fro (ns.map .int)] []) P := by
  have z : cutL (ns.map Val.int) none (some 63) = ns.map .int := by
    simp only [cutL, HT.sIx]
    simp
    apply List.take_of_length_le
    simp; omega
  apply Ok_call (F := ⟨1, 2, b__law_start⟩) rfl rfl (by decide)
  simp [b__law_start, z, itR, itemsV, seqL]
  refine lcLoop_ok (it := .live 0 ns.length) (fun i h => h.length = 2 ∧ h[0]? = some (.lst (ns.map .int)) ∧ h[1]? = some (.lst ((ns.map Val.int).take i))) ?_ ?_ ns.length 0 _ (by simp [Items.len]) (by simp)
  · intro i h l ⟨h1, h2, h3⟩
    have l : i < ns.length := l
    refine ⟨.int ns[i], _, by simp [Items.get, seqL, h2, l], rfl, ?_⟩
    simp [wipeR]
    refine ⟨_, h3, ?_, h1, ?_, ?_⟩
    · simp only [List.length_take, List.length_map, sizeLine]; omega
    · simpa using h2
    · rw [List.getElem?_set_self (by omega)]
      simp [List.take_add_one, l]
  · intro h ⟨h1, h2, h3⟩
    simp [Items.fin, Items.len, seqL, h2]
    rw [lstR_ok (by simp [sizeLine])]
    simp
    rw [h1]
    apply H
    · refine ⟨1, 0, 0, 0, ns, ?_, ?_, by omega, by omega, by omega, by omega, by omega, by omega⟩
      · rw [List.getElem?_append_right (by omega)]; simp [h1]
      · rw [List.getElem?_append_left (by omega), h3]; simp [Items.len]; exact List.take_of_length_le (by simp)
    · simp [h1]
end Gu
end

section
set_option linter.all false
set_option Elab.async false
namespace Gu
open PySem L2
/-! the places of a text -/
theorem atD {α : Type} {s r : List α} {c : α} {p : Nat} (e : s.drop p = c :: r) : atI s (p : Int) = some c := by
  apply atI_lt
  have : (s.drop p)[0]? = some c := by rw [e]; rfl
  simpa using this
theorem dropS {α : Type} {s r : List α} {c : α} {p : Nat} (e : s.drop p = c :: r) : s.drop (p + 1) = r := by
  rw [← List.drop_drop, e]; rfl
theorem dropL {α : Type} {s r : List α} {c : α} {p : Nat} (e : s.drop p = c :: r) : p + 1 + r.length = s.length := by
  have := congrArg List.length e
  simp at this; omega
theorem dropN {α : Type} {s : List α} {p : Nat} (l : p ≤ s.length) (e : s.drop p = []) : p = s.length := by
  have := congrArg List.length e
  simp at this; omega
theorem cutD {α : Type} {s : List α} {p q : Nat} (l : p ≤ s.length) (lq : p ≤ q) : cutL s (some (p : Int)) (some (q : Int)) = (s.drop p).take (q - p) := by
  simp only [cutL, HT.sIx_nat]
  rw [Nat.min_eq_left l]
  rcases Nat.le_total q s.length with h | h
  · rw [Nat.min_eq_left h]
  · rw [Nat.min_eq_right h]
    rw [List.take_of_length_le (by simp), List.take_of_length_le (by simp; omega)]
theorem cut2 {α : Type} {s : List α} {p : Nat} (l : p ≤ s.length) : cutL s (some (p : Int)) (some ((p : Int) + 2)) = (s.drop p).take 2 := by
  have := cutD (q := p + 2) l (by omega)
  rw [show p + 2 - p = 2 by omega] at this
  exact this
/-- what stands behind a comment's text, n comments deep -/
def com : Nat → List Nat → Option (List Nat)
  | _, [] => none
  | _, [_] => none
  | n, c :: d :: r => if c = 40 ∧ d = 42 then com (n + 1) r else if c = 42 ∧ d = 41 then (if n = 1 then some r else com (n - 1) r) else com n (d :: r)
inductive SkI (s : List Nat) (p : Nat) (r : List Nat) (h : MH) : Nat → Rho → MH → Prop
  | mk {n q : Nat} {w : List Nat} : s.drop q = w → q ≤ s.length → com n w = some r → 1 ≤ n → SkI s p r h w.length [some (.str s), some (.int p), some (.int n), some (.int q)] h
theorem skc_ok {s : List Nat} {p k : Nat} {w r : List Nat} {h : MH} {P : Val → MH → Prop} (e : s.drop (p + 2) = w) (l : p + 2 ≤ s.length) (c : com 1 w = some r) (ls : s.length ≤ 4000)
    (H : ∀ q, s.drop q = r → q ≤ s.length → P (.int q) h) : Ok (callK ft (k + 1) i_skip_comment [.str s, .int p] h) P := by
  apply Ok_call (F := ⟨2, 4, b_skip_comment⟩) rfl rfl (by decide)
  simp [b_skip_comment]
  refine whl_ok (SkI s p r h) ?_ manyTurns w.length _ _ ?_ (.mk (n := 1) (q := p + 2) e l c (by omega))
  · intro m ρ h' i
    cases i with
    | @mk n q w e lq c hn =>
    match w, e, c with
    | [], e, c => simp [com] at c
    | [_], e, c => simp [com] at c
    | a :: b :: t, e, c =>
      have e1 := dropS e
      have e2 := dropS e1
      have l1 := dropL e
      simp at l1
      have nx : SkI s p r h (b :: t).length [some (.str s), some (.int p), some (.int n), some (.int (q + 1))] h ∨ (a = 40 ∧ b = 42) ∨ (a = 42 ∧ b = 41) := by
        by_cases q1 : a = 40 ∧ b = 42
        · exact .inr (.inl q1)
        · by_cases q2 : a = 42 ∧ b = 41
          · exact .inr (.inr q2)
          · unfold com at c
            rw [if_neg q1, if_neg q2] at c
            exact .inl (.mk (n := n) (q := q + 1) e1 (by omega) c hn)
      simp [cut2 lq, e]
      refine ⟨fun _ => ?_, fun h => by omega⟩
      simp [w_skip_comment_1, cut2 lq, e]
      unfold com at c
      split at c
      · rename_i q1
        obtain ⟨rfl, rfl⟩ := q1
        simp
        exact ⟨t.length, by omega, .mk (n := n + 1) (q := q + 2) e2 (by omega) c (by omega)⟩
      · rename_i q1
        split at c
        · rename_i q2
          obtain ⟨rfl, rfl⟩ := q2
          simp
          split at c
          · rename_i q3
            have c := Option.some.inj c
            simp [q3]
            exact H (q + 2) (by rw [e2, c]) (by omega)
          · rename_i q3
            refine ⟨fun h => by omega, fun _ => ⟨t.length, by omega, ?_⟩⟩
            rw [show (n : Int) - 1 = ((n - 1 : Nat) : Int) by omega]
            exact .mk (n := n - 1) (q := q + 2) e2 (by omega) c (by omega)
        · rename_i q2
          refine ⟨fun x y => absurd ⟨x, y⟩ q1, fun _ => ⟨fun x y => absurd ⟨x, y⟩ q2, fun _ => ?_⟩⟩
          rcases nx with nx | nx | nx
          · exact ⟨_, by simp, nx⟩
          · exact absurd nx q1
          · exact absurd nx q2
  · have := congrArg List.length e
    simp [manyTurns] at this ⊢; omega
/-- what stands behind spaces and comments -/
inductive Skip : List Nat → List Nat → Prop
  | nil : Skip [] []
  | sp {c : Nat} {r w : List Nat} : c = 32 ∨ c = 10 → Skip r w → Skip (c :: r) w
  | co {r r1 w : List Nat} : com 1 r = some r1 → Skip r1 w → Skip (40 :: 42 :: r) w
  | stop {c : Nat} {r : List Nat} : c ≠ 32 → c ≠ 10 → ¬ (c = 40 ∧ r.head? = some 42) → Skip (c :: r) (c :: r)
theorem com_len : ∀ {m n : Nat} {w r : List Nat}, w.length ≤ m → com n w = some r → r.length < w.length
  | _, _, [], _, _, c => by simp [com] at c
  | _, _, [_], _, _, c => by simp [com] at c
  | 0, _, _ :: _ :: _, _, l, _ => by simp at l
  | m + 1, n, a :: b :: t, r, l, c => by
    simp at l
    unfold com at c
    split at c
    · have := com_len (m := m) (by omega) c; simp; omega
    · split at c
      · split at c
        · cases c; simp; omega
        · have := com_len (m := m) (by omega) c; simp; omega
      · have := com_len (m := m) (by simp; omega) c; simp at this ⊢; omega
inductive SpI (s w1 : List Nat) (h : MH) : Nat → Rho → MH → Prop
  | mk {q : Nat} {w : List Nat} : s.drop q = w → q ≤ s.length → Skip w w1 → SpI s w1 h w.length [some (.str s), some (.int q)] h
theorem sks_ok {s : List Nat} {p k : Nat} {w w1 : List Nat} {h : MH} {P : Val → MH → Prop} (e : s.drop p = w) (l : p ≤ s.length) (c : Skip w w1) (ls : s.length ≤ 4000)
    (H : ∀ q, s.drop q = w1 → q ≤ s.length → P (.int q) h) : Ok (callK ft (k + 2) i_skip_space [.str s, .int p] h) P := by
  apply Ok_call (F := ⟨2, 2, b_skip_space⟩) rfl rfl (by decide)
  simp [b_skip_space]
  refine whl_ok (SpI s w1 h) ?_ manyTurns w.length _ _ ?_ (.mk (q := p) e l c)
  · intro m ρ h' i
    cases i with
    | @mk q w e lq c =>
    cases c with
    | nil =>
      have := dropN lq e
      subst this
      simp [r_skip_space_2]
      exact H s.length (by simp) (by omega)
    | @sp c r w hc t =>
      have e1 := dropS e
      have l1 := dropL e
      simp
      refine ⟨fun _ => ?_, fun h => by omega⟩
      simp [w_skip_space_1, atD e]
      rcases hc with rfl | rfl
      · simp; exact ⟨_, by omega, .mk (q := q + 1) e1 (by omega) t⟩
      · simp; exact ⟨_, by omega, .mk (q := q + 1) e1 (by omega) t⟩
    | @co r r1 w hc t =>
      have e1 := dropS e
      have e2 := dropS e1
      have l1 := dropL e
      have l2 := com_len (Nat.le_refl _) hc
      simp at l1
      simp
      refine ⟨fun _ => ?_, fun h => by omega⟩
      simp [w_skip_space_1, atD e, cut2 lq, e]
      apply skc_ok e2 (by omega) hc ls
      intro q' e' l'
      exact ⟨r1.length, by omega, .mk (q := q') e' l' t⟩
    | @stop c r h1 h2 h3 =>
      have l1 := dropL e
      simp
      refine ⟨fun _ => ?_, fun h => by omega⟩
      simp [w_skip_space_1, atD e, h1, h2, cut2 lq, e]
      refine ⟨?_, fun _ => H q e lq⟩
      rintro rfl h
      exfalso; apply h3
      cases r with
      | nil => simp at h
      | cons a t => simp at h; simp [h]
  · have := congrArg List.length e
    simp [manyTurns] at this ⊢; omega
end Gu
end

section
set_option linter.all false
set_option Elab.async false
namespace Gu
open PySem L2
def LOWl : List Nat := [97, 98, 99, 100, 101, 102, 103, 104, 105, 106, 107, 108, 109, 110, 111, 112, 113, 114, 115, 116, 117, 118, 119, 120, 121, 122]
def HIGHl : List Nat := [65, 66, 67, 68, 69, 70, 71, 72, 73, 74, 75, 76, 77, 78, 79, 80, 81, 82, 83, 84, 85, 86, 87, 88, 89, 90]
def DIGl : List Nat := [48, 49, 50, 51, 52, 53, 54, 55, 56, 57]
def FOLl : List Nat := [97, 98, 99, 100, 101, 102, 103, 104, 105, 106, 107, 108, 109, 110, 111, 112, 113, 114, 115, 116, 117, 118, 119, 120, 121, 122, 65, 66, 67, 68, 69, 70, 71, 72, 73, 74, 75, 76, 77, 78, 79, 80, 81, 82, 83, 84, 85, 86, 87, 88, 89, 90, 48, 49, 50, 51, 52, 53, 54, 55, 56, 57, 95, 39]
def SHOl : List Nat := [40, 41, 91, 93, 44, 59, 58, 61, 124, 95, 46, 42, 43, 45, 94, 60, 62, 33, 126]
def WORl : List (List Nat) := [[97, 110, 100], [97, 110, 100, 97, 108, 115, 111], [99, 97, 115, 101], [100, 97, 116, 97, 116, 121, 112, 101], [100, 105, 118], [101, 108, 115, 101], [101, 110, 100], [101, 120, 99, 101, 112, 116, 105, 111, 110], [102, 110], [102, 117, 110], [102, 117, 110, 99, 116, 111, 114], [104, 97, 110, 100, 108, 101], [105, 102], [105, 110], [108, 101, 116], [109, 111, 100], [111, 102], [111, 112, 101, 110], [111, 114, 101, 108, 115, 101], [114, 97, 105, 115, 101], [115, 105, 103], [115, 105, 103, 110, 97, 116, 117, 114, 101], [115, 116, 114, 117, 99, 116], [115, 116, 114, 117, 99, 116, 117, 114, 101], [116, 104, 101, 110], [116, 121, 112, 101], [118, 97, 108], [119, 104, 101, 114, 101]]
def LONl : List (List Nat) := [[58, 62], [61, 62], [45, 62], [58, 58], [60, 61], [62, 61], [60, 62], [58, 61]]
def SIGl : List (List Nat) := [[40], [41], [91], [93], [44], [59], [58], [58, 62], [61], [61, 62], [45, 62], [124], [95], [46], [42], [43], [45], [94], [58, 58], [60], [60, 61], [62], [62, 61], [60, 62], [58, 61], [33], [126]]
def hs (s : List Nat) (c : Nat) : Bool := s.contains c
def hw (s : List (List Nat)) (c : List Nat) : Bool := s.contains c
theorem hs_iff {s : List Nat} {c : Nat} : hs s c = true ↔ c ∈ s := by simp [hs]
theorem hw_iff {s : List (List Nat)} {c : List Nat} : hw s c = true ↔ c ∈ s := by simp [hw]
section
variable {c : Nat} {u : List Nat} {h : MH}
theorem inLow : cmpR .In (.str [c]) c_LOW h = .ok (.bl (hs LOWl c)) h := rfl
theorem ninLow : cmpR .NotIn (.str [c]) c_LOW h = .ok (.bl (!hs LOWl c)) h := rfl
theorem inHigh : cmpR .In (.str [c]) c_HIGH h = .ok (.bl (hs HIGHl c)) h := rfl
theorem inDig : cmpR .In (.str [c]) c_DIGITS h = .ok (.bl (hs DIGl c)) h := rfl
theorem ninDig : cmpR .NotIn (.str [c]) c_DIGITS h = .ok (.bl (!hs DIGl c)) h := rfl
theorem inFol : cmpR .In (.str [c]) c_FOLLOWING h = .ok (.bl (hs FOLl c)) h := rfl
theorem inSho : cmpR .In (.str [c]) c_SHORT_SIGNS h = .ok (.bl (hs SHOl c)) h := rfl
theorem any_str (L : List (List Nat)) : ((L.map Val.str).any fun z => Val.eqb z (.str u)) = hw L u := by
  induction L with
  | nil => rfl
  | cons a r ih =>
    have ih' : ((r.map Val.str).any fun z => Val.eqb z (.str u)) = r.contains u := ih
    show (Val.eqb (.str a) (.str u) || (r.map Val.str).any _) = (a :: r).contains u
    rw [ih', List.contains_cons]
    show ((a == u) || _) = _
    rw [show (a == u) = (u == a) from Bool.beq_comm ..]
theorem all_str (L : List (List Nat)) : (L.map Val.str).all Val.atom = true := by
  induction L with
  | nil => rfl
  | cons a r ih => simp [Val.atom, ih]
theorem in_tupS {L : List (List Nat)} : cmpR .In (.str u) (.tup (L.map .str)) h = .ok (.bl (hw L u)) h := by
  simp only [cmpR, cmpV, inV?, all_str, any_str, Val.atom]; simp
theorem in_lstS {L : List (List Nat)} {n : Nat} (hn : h[n]? = some (.lst (L.map .str))) : cmpR .In (.str u) (.loc n) h = .ok (.bl (hw L u)) h := by
  simp only [cmpR, cmpV, inV?, seqL, hn, all_str, any_str, Val.atom]; simp
theorem inWor : cmpR .In (.str u) c_WORDS h = .ok (.bl (hw WORl u)) h := in_tupS (L := WORl)
theorem inLon : cmpR .In (.str u) c_LONG_SIGNS h = .ok (.bl (hw LONl u)) h := in_tupS (L := LONl)
end
/-- what stands behind a word -/
def Bh (r : List Nat) : Prop := ∀ c, r.head? = some c → c ∉ FOLl
inductive EwI (s : List Nat) (h : MH) (r : List Nat) : Nat → Rho → MH → Prop
  | mk {q : Nat} {n : List Nat} : s.drop q = n ++ r → q ≤ s.length → (∀ c ∈ n, c ∈ FOLl) → EwI s h r n.length [some (.str s), some (.int q)] h
theorem eow_ok {s : List Nat} {p k : Nat} {n r : List Nat} {h : MH} {P : Val → MH → Prop} (e : s.drop p = n ++ r) (l : p ≤ s.length) (hn : ∀ c ∈ n, c ∈ FOLl) (hr : Bh r) (ls : s.length ≤ 4000)
    (H : s.drop (p + n.length) = r → p + n.length ≤ s.length → P (.int (p + n.length : Nat)) h) : Ok (callK ft (k + 1) i_end_of_word [.str s, .int p] h) P := by
  have hlen : s.length = p + n.length + r.length := by
    have := congrArg List.length e
    simp at this; omega
  have hr2 : s.drop (p + n.length) = r := by rw [← List.drop_drop, e]; simp
  apply Ok_call (F := ⟨2, 2, b_end_of_word⟩) rfl rfl (by decide)
  simp [b_end_of_word]
  refine whl_ok (EwI s h r) ?_ manyTurns n.length _ _ ?_ (.mk e l hn)
  · intro m ρ h' i
    cases i with
    | @mk q n' e' lq hn' =>
    have hl2 : s.length = q + n'.length + r.length := by
      have := congrArg List.length e'
      simp at this; omega
    cases n' with
    | nil =>
      simp at e' hl2
      have eq : q = p + n.length := by omega
      have Hq : P (.int q) h := eq ▸ H hr2 (by omega)
      cases r with
      | nil =>
        simp at hl2
        simp [hl2, r_end_of_word_2]
        exact hl2 ▸ Hq
      | cons c r =>
        have nf : hs FOLl c = false := by
          have := hr c rfl
          simpa [hs] using this
        simp [atD e', inFol, nf, -cmp_inS, r_end_of_word_2]
        exact Hq
    | cons c t =>
      simp at e' hn' hl2
      have hc : hs FOLl c = true := hs_iff.2 hn'.1
      simp [atD e', inFol, hc, -cmp_inS, w_end_of_word_1]
      refine ⟨fun _ => ⟨_, by omega, .mk (q := q + 1) (dropS e') (by omega) hn'.2⟩, fun x => by omega⟩
  · simp [manyTurns]; omega
end Gu
end

section
set_option linter.all false
set_option Elab.async false
namespace Gu
open PySem L2
abbrev kSIGN : List Nat := [115, 105, 103, 110]
abbrev kWORD : List Nat := [119, 111, 114, 100]
abbrev kLOW : List Nat := [108, 111, 119]
abbrev kHIGH : List Nat := [104, 105, 103, 104]
abbrev kINT : List Nat := [105, 110, 116]
abbrev kVAR : List Nat := [118, 97, 114]
abbrev kSTR : List Nat := [115, 116, 114, 105, 110, 103]
def Ap (h h' : MH) : Prop := ∃ os, h' = h ++ os
theorem Ap.refl (h : MH) : Ap h h := ⟨[], by simp⟩
/-- read_token reads t (of kind kd) and leaves r -/
def Rd (w kd t r : List Nat) : Prop := ∀ (s : List Nat) (p k : Nat) (h : MH) (P : Val → MH → Prop), s.drop p = w → p ≤ s.length → s.length ≤ 4000 →
  (∀ q h', s.drop q = r → q ≤ s.length → Ap h h' → P (.tup [.tup [.str kd, .str t, .int p], .int (q : Nat)]) h') → Ok (callK ft (k + 4) i_read_token [.str s, .int p] h) P
def kName (n : List Nat) : List Nat := if hw WORl n then kWORD else if hs LOWl (n.headD 0) then kLOW else kHIGH
theorem tk3 {x y z : Val} {h : MH} : tupR [x, y, z] h = .ok (.tup [x, y, z]) h := if_pos (by simp [sizeLine])
theorem tk2 {x y : Val} {h : MH} : tupR [x, y] h = .ok (.tup [x, y]) h := if_pos (by simp [sizeLine])
theorem rd_name {n r : List Nat} (h0 : n ≠ []) (h1 : n.headD 0 ∈ LOWl ∨ n.headD 0 ∈ HIGHl) (h2 : ∀ c ∈ n, c ∈ FOLl) (h3 : n.length ≤ 24) (hr : Bh r) : Rd (n ++ r) (kName n) n r := by
  intro s p k h P e l ls H
  have hlen : s.length = p + n.length + r.length := by
    have := congrArg List.length e
    simp at this; omega
  match n, h0 with
  | c :: t, _ =>
  have e' : s.drop p = c :: (t ++ r) := e
  have hc : (hs LOWl c || hs HIGHl c) = true := by
    simp [hs]; exact h1
  apply Ok_call (F := ⟨2, 3, b_read_token⟩) rfl rfl (by decide)
  simp [b_read_token, atD e', inLow, inHigh, -cmp_inS]
  have R : Ok (callK ft (k + 3) i_read_name [.str s, .int p] h) P := by
    apply Ok_call (F := ⟨2, 4, b_read_name⟩) rfl rfl (by decide)
    simp [b_read_name]
    apply eow_ok e l h2 hr ls
    intro hd hl
    have cu : cutL s (some (p : Int)) (some ((p + (c :: t).length : Nat) : Int)) = c :: t := by
      rw [cutD l (by omega), e, show p + (c :: t).length - p = (c :: t).length by omega]; simp
    simp only [intO_int, Ok_ok, cu]
    refine ⟨by omega, fun _ => ?_⟩
    have f := H (p + (c :: t).length) h hd hl (Ap.refl h)
    simp [r_read_name_3, inWor, tk3, tk2]
    unfold kName at f
    constructor
    · intro x; rw [if_pos x] at f; simpa using f
    · intro x; rw [if_neg (by simp [x])] at f
      simp [r_read_name_2, inLow, tk3, tk2, -cmp_inS]
      constructor
      · intro y; rw [if_pos (by simpa using y)] at f; simpa using f
      · intro y; rw [if_neg (by simpa using y)] at f
        simp [r_read_name_1, tk3, tk2]
        simpa using f
  constructor
  · intro _; exact R
  · intro x; simp [x] at hc; simp [hc]; exact R
end Gu
end

section
set_option linter.all false
set_option Elab.async false
namespace Gu
open PySem L2
theorem low_fol : ∀ c ∈ LOWl, c ∈ FOLl := by decide
theorem dig_fol : ∀ c ∈ DIGl, c ∈ FOLl := by decide
theorem dig_nl : ∀ c ∈ DIGl, hs LOWl c = false ∧ hs HIGHl c = false := by decide
theorem rd_num {n r : List Nat} (h0 : n ≠ []) (h1 : ∀ c ∈ n, c ∈ DIGl) (h2 : n.length ≤ 18) (h3 : 1 < n.length → n.headD 0 ≠ 48) (hr : Bh r) : Rd (n ++ r) kINT n r := by
  intro s p k h P e l ls H
  have hlen : s.length = p + n.length + r.length := by
    have := congrArg List.length e
    simp at this; omega
  match n, h0 with
  | c :: t, _ =>
  have e' : s.drop p = c :: (t ++ r) := e
  have hc : hs DIGl c = true := hs_iff.2 (h1 c (by simp))
  have hd := dig_nl c (h1 c (by simp))
  apply Ok_call (F := ⟨2, 3, b_read_token⟩) rfl rfl (by decide)
  simp [b_read_token, atD e', inLow, inHigh, -cmp_inS, hd, r_read_token_6, inDig, hc]
  apply Ok_call (F := ⟨2, 5, b_read_number⟩) rfl rfl (by decide)
  simp [b_read_number]
  apply eow_ok e l (fun c m => dig_fol c (h1 c m)) hr ls
  intro hd hl
  have cu : cutL s (some (p : Int)) (some ((p + (c :: t).length : Nat) : Int)) = c :: t := by
    rw [cutD l (by omega), e, show p + (c :: t).length - p = (c :: t).length by omega]; simp
  simp only [intO_int, Ok_ok, cu]
  apply forV_ok (fun i ρ h' => h' = h ∧ ∃ o, ρ = [some (.str s), some (.int p), some (.int (p + (c :: t).length : Nat)), some (.str (c :: t)), o])
  · rintro i ρ h' x hx ⟨rfl, o, rfl⟩
    have hx : ((c :: t).map fun c => Val.str [c])[i]? = some x := hx
    rw [List.getElem?_map, Option.map_eq_some_iff] at hx
    obtain ⟨d, hd, rfl⟩ := hx
    have hd' : hs DIGl d = true := hs_iff.2 (h1 d (List.mem_of_getElem? hd))
    simp [w_read_number_1, ninDig, hd', -cmp_ninS]
  · rintro ρ h' ⟨rfl, o, rfl⟩
    simp at h2 h3
    simp [r_read_number_3, r_read_number_2, tk3, tk2]
    have f := H (p + (c :: t).length) h' hd hl (Ap.refl h')
    refine ⟨by omega, fun _ => ⟨fun h => ⟨h3 (by omega), fun _ => ?_⟩, fun _ => ?_⟩⟩
    · simpa using f
    · simpa using f
  · exact ⟨rfl, _, rfl⟩
theorem rd_var {c : Nat} {r : List Nat} (h1 : c ∈ LOWl) (hr : Bh r) : Rd (39 :: c :: r) kVAR [c] r := by
  intro s p k h P e l ls H
  have e1 := dropS e
  have l1 := dropL e
  simp at l1
  have hc : hs LOWl c = true := hs_iff.2 h1
  have x1 : hs LOWl 39 = false := by decide
  have x2 : hs HIGHl 39 = false := by decide
  have x3 : hs DIGl 39 = false := by decide
  apply Ok_call (F := ⟨2, 3, b_read_token⟩) rfl rfl (by decide)
  simp [b_read_token, atD e, inLow, inHigh, -cmp_inS, x1, x2, x3, r_read_token_6, inDig, r_read_token_5, r_read_token_4]
  apply Ok_call (F := ⟨2, 3, b_read_variable⟩) rfl rfl (by decide)
  simp [b_read_variable]
  apply eow_ok (n := [c]) (r := r) (p := p + 1) e1 (by omega) (fun c m => by simp at m; subst m; exact low_fol _ h1) hr ls
  intro hd hl
  have a1 := atD e1
  simp at a1 hd hl
  have f := H (p + 2) h hd (by omega) (Ap.refl h)
  simp [a1, ninLow, hc, -cmp_ninS, r_read_variable_1, tk3, tk2]
  refine ⟨by omega, fun _ => ?_⟩
  rw [show (p : Int) + 1 + 1 = ((p + 2 : Nat) : Int) by omega]
  exact f
def signOk (t : List Nat) (x : Option Nat) : Bool :=
  match t with
  | [c] => !hs LOWl c && !hs HIGHl c && !hs DIGl c && c != 34 && c != 39 && hs SHOl c && !hw LONl (c :: x.toList)
  | [c, d] => !hs LOWl c && !hs HIGHl c && !hs DIGl c && c != 34 && c != 39 && hw LONl [c, d]
  | _ => false
theorem rd_sign {t r : List Nat} (h1 : signOk t r.head? = true) : Rd (t ++ r) kSIGN t r := by
  intro s p k h P e l ls H
  match t, h1 with
  | [c], h1 =>
    simp only [signOk, Bool.and_eq_true, Bool.not_eq_true', bne_iff_ne] at h1
    obtain ⟨⟨⟨⟨⟨⟨x1, x2⟩, x3⟩, x4⟩, x5⟩, x6⟩, x7⟩ := h1
    have e : s.drop p = c :: r := e
    have l1 := dropL e
    have g : (s.drop p).take 2 = c :: r.head?.toList := by rw [e]; cases r <;> rfl
    apply Ok_call (F := ⟨2, 3, b_read_token⟩) rfl rfl (by decide)
    simp [b_read_token, atD e, inLow, inHigh, -cmp_inS, x1, x2, x3, x4, x5, x6, r_read_token_6, inDig, r_read_token_5, r_read_token_4, r_read_token_3, cut2 l, g, inLon, x7, r_read_token_2, inSho, tk3, tk2]
    exact H (p + 1) h (dropS e) (by omega) (Ap.refl h)
  | [c, d], h1 =>
    simp only [signOk, Bool.and_eq_true, Bool.not_eq_true', bne_iff_ne] at h1
    obtain ⟨⟨⟨⟨⟨x1, x2⟩, x3⟩, x4⟩, x5⟩, x6⟩ := h1
    have e : s.drop p = c :: d :: r := e
    have l1 := dropL e
    simp at l1
    have g : (s.drop p).take 2 = [c, d] := by rw [e]; rfl
    apply Ok_call (F := ⟨2, 3, b_read_token⟩) rfl rfl (by decide)
    simp [b_read_token, atD e, inLow, inHigh, -cmp_inS, x1, x2, x3, x4, x5, x6, r_read_token_6, inDig, r_read_token_5, r_read_token_4, r_read_token_3, cut2 l, g, inLon, tk3, tk2]
    exact H (p + 2) h (dropS (dropS e)) (by omega) (Ap.refl h)
end Gu
end

section
set_option linter.all false
set_option Elab.async false
namespace Gu
open PySem L2
def esc1 (c : Nat) : List Nat := if c = 10 then [92, 110] else if c = 92 ∨ c = 34 then [92, c] else [c]
def esc : List Nat → List Nat
  | [] => []
  | c :: t => esc1 c ++ esc t
def ch (c : Nat) : Val := .str [c]
theorem strs_ch (t : List Nat) : strs? (t.map ch) = some (t.map fun c => [c]) := by
  induction t with
  | nil => rfl
  | cons c t ih => simp [ch, strs?] at ih ⊢; simp [ih]
theorem join_ch (t : List Nat) : joinS [] (t.map fun c => [c]) = t := by
  induction t with
  | nil => rfl
  | cons c t ih =>
    cases t with
    | nil => rfl
    | cons d t => simp [joinS] at ih ⊢; exact ih
theorem esc_ok {s : List Nat} {p k d : Nat} {r : List Nat} {h : MH} {P : Val → MH → Prop} (e : s.drop p = 92 :: d :: r) (hd : d = 110 ∨ d = 92 ∨ d = 34)
    (H : P (.str [if d = 110 then 10 else d]) h) : Ok (callK ft (k + 1) i_escaped [.str s, .int p] h) P := by
  have e1 := dropS e
  have l1 := dropL e
  simp at l1
  have cu : cutL s (some ((p : Int) + 1)) (some ((p : Int) + 2)) = [d] := by
    have := cutD (s := s) (p := p + 1) (q := p + 2) (by omega) (by omega)
    rw [e1, show p + 2 - (p + 1) = 1 by omega] at this
    exact this
  apply Ok_call (F := ⟨2, 3, b_escaped⟩) rfl rfl (by decide)
  simp [b_escaped, cu, r_escaped_2]
  rcases hd with rfl | rfl | rfl <;> simpa using H
inductive StI (s : List Nat) (p : Nat) (h : MH) (tt r : List Nat) : Nat → Rho → MH → Prop
  | mk {q : Nat} {a t : List Nat} {h' : MH} : s.drop q = esc t ++ 34 :: r → q ≤ s.length → tt = a ++ t → h' = h ++ [.lst (a.map ch)] → StI s p h tt r t.length [some (.str s), some (.int p), some (.loc h.length), some (.int q)] h'
theorem esc_len (t : List Nat) : t.length ≤ (esc t).length := by
  induction t with
  | nil => simp
  | cons c t ih => simp [esc, esc1]; split <;> (try split) <;> simp <;> omega
theorem get_end {h : MH} {o : MO} : (h ++ [o])[h.length]? = some o := by simp
theorem set_end {h : MH} {o o' : MO} : (h ++ [o]).set h.length o' = h ++ [o'] := by simp
theorem rd_str {t r : List Nat} : Rd (34 :: (esc t ++ 34 :: r)) kSTR t r := by
  intro s p k h P e l ls H
  have e1 := dropS e
  have l1 := dropL e
  have l2 := esc_len t
  simp at l1
  have x1 : hs LOWl 34 = false := by decide
  have x2 : hs HIGHl 34 = false := by decide
  have x3 : hs DIGl 34 = false := by decide
  apply Ok_call (F := ⟨2, 3, b_read_token⟩) rfl rfl (by decide)
  simp [b_read_token, atD e, inLow, inHigh, -cmp_inS, x1, x2, x3, r_read_token_6, inDig, r_read_token_5]
  apply Ok_call (F := ⟨2, 4, b_read_string⟩) rfl rfl (by decide)
  simp [b_read_string, lstR_ok (xs := []) (by simp [sizeLine])]
  refine whl_ok (StI s p h t r) ?_ manyTurns t.length _ _ ?_ (.mk (q := p + 1) (a := []) (t := t) e1 (by omega) rfl rfl)
  · intro m ρ h' i
    cases i with
    | @mk q a t' h' e' lq ea eh =>
    subst eh
    have get := get_end (h := h) (o := .lst (a.map ch))
    have lt : a.length + t'.length ≤ 4000 := by
      have := congrArg List.length ea
      simp at this; omega
    have mt := (mtT_loc get).1
    match t', e', ea, lt with
    | [], e', ea, lt =>
      have e' : s.drop q = 34 :: r := e'
      have l3 := dropL e'
      simp at ea
      subst ea
      simp [atD e']
      have hj : mtV .join (.str []) [.loc h.length] (h ++ [.lst (t.map ch)]) = .ok (.str t) (h ++ [.lst (t.map ch)]) := by
        have c : (List.map (fun c => [c]) t |>.map (·.length)).sum + (t.map fun c => [c]).length * ([] : List Nat).length ≤ 16777216 := by
          have : ∀ t : List Nat, (List.map (fun c => [c]) t |>.map (·.length)).sum = t.length := by
            intro t; induction t with
            | nil => rfl
            | cons c t ih => simp at ih ⊢; omega
          rw [this]; simp; omega
        simp only [mtV, seqL, get, strs_ch]
        rw [if_pos c, join_ch]
      simp [r_read_string_4, r_read_string_3, hj, tk3, tk2]
      refine ⟨by omega, fun _ => ?_⟩
      exact H (q + 1) _ (dropS e') (by omega) ⟨_, rfl⟩
    | c :: t', e', ea, lt =>
      have nx : ∀ q', s.drop q' = esc t' ++ 34 :: r → q' ≤ s.length → StI s p h t r t'.length [some (.str s), some (.int p), some (.loc h.length), some (.int (q' : Nat))] (h ++ [.lst (a.map ch ++ [.str [c]])]) := by
        intro q' x1 x2
        exact .mk (a := a ++ [c]) x1 x2 (by simp [ea]) (by simp [ch])
      have ap := mt_append (v := .str [c]) get (by simp [sizeLine] at lt ⊢; omega)
      rw [set_end] at ap
      by_cases c1 : c = 10
      · subst c1
        have e' : s.drop q = 92 :: 110 :: (esc t' ++ 34 :: r) := by rw [e']; simp [esc, esc1]
        have l3 := dropL e'
        simp at l3
        simp [atD e']
        refine ⟨fun _ => ?_, fun x => by omega⟩
        simp [w_read_string_2, atD e', r_read_string_1, mt]
        apply esc_ok e' (.inl rfl)
        simp [ap]
        exact ⟨_, by omega, nx (q + 2) (dropS (dropS e')) (by omega)⟩
      · by_cases c2 : c = 92 ∨ c = 34
        · have e' : s.drop q = 92 :: c :: (esc t' ++ 34 :: r) := by rw [e']; simp [esc, esc1, c1, c2]
          have l3 := dropL e'
          simp at l3
          simp [atD e']
          refine ⟨fun _ => ?_, fun x => by omega⟩
          simp [w_read_string_2, atD e', r_read_string_1, mt]
          apply esc_ok e' (.inr c2)
          have c3 : c ≠ 110 := by rintro rfl; simp at c2
          simp [ap, c3]
          exact ⟨_, by omega, nx (q + 2) (dropS (dropS e')) (by omega)⟩
        · have e' : s.drop q = c :: (esc t' ++ 34 :: r) := by rw [e']; simp [esc, esc1, c1, c2]
          have l3 := dropL e'
          simp at l3
          have c4 : ¬ c = 92 := fun x => c2 (.inl x)
          have c5 : ¬ c = 34 := fun x => c2 (.inr x)
          simp [atD e', c5]
          refine ⟨fun _ => ?_, fun x => by omega⟩
          simp [w_read_string_2, atD e', r_read_string_1, mt, c1, c4, ap]
          exact ⟨_, by omega, nx (q + 1) (dropS e') (by omega)⟩
  · simp [manyTurns]; omega
end Gu
end

section
set_option linter.all false
set_option Elab.async false
namespace Gu
open PySem L2
structure Tk where
  kd : List Nat
  t : List Nat
  p : Nat
def Tk.v (x : Tk) : Val := .tup [.str x.kd, .str x.t, .int x.p]
/-- a text's tokens; e is the length of the whole text -/
inductive Lex (e : Nat) : List Nat → List Tk → Prop
  | done {w : List Nat} : Skip w [] → Lex e w []
  | tok {w w1 r kd t : List Nat} {ts : List Tk} : Skip w w1 → w1 ≠ [] → Rd w1 kd t r → r.length < w1.length → Lex e r ts → Lex e w (⟨kd, t, e - w1.length⟩ :: ts)
theorem Skip.len {w w1 : List Nat} (x : Skip w w1) : w1.length ≤ w.length := by
  induction x with
  | nil => simp
  | sp _ _ ih => simp; omega
  | co c _ ih => have := com_len (Nat.le_refl _) c; simp; omega
  | stop => simp
theorem Skip.idem {w w1 : List Nat} (x : Skip w w1) : Skip w1 w1 := by
  induction x with
  | nil => exact .nil
  | sp _ _ ih => exact ih
  | co c _ ih => exact ih
  | stop a b c => exact .stop a b c
theorem Skip.det {w w1 w2 : List Nat} (x : Skip w w1) (y : Skip w w2) : w1 = w2 := by
  induction x generalizing w2 with
  | nil => cases y; rfl
  | sp h _ ih =>
    cases y with
    | sp _ y => exact ih y
    | co c y => omega
    | stop a b c => omega
  | co h _ ih =>
    cases y with
    | sp h' y => omega
    | co h' y => rw [h] at h'; cases h'; exact ih y
    | stop a b c => exact absurd ⟨rfl, rfl⟩ c
  | stop a b c =>
    cases y with
    | sp h' y => omega
    | co h' y => exact absurd ⟨rfl, rfl⟩ c
    | stop a b c => rfl
theorem dropE {s w : List Nat} {q : Nat} (l : q ≤ s.length) (e : s.drop q = w) : q = s.length - w.length := by
  have := congrArg List.length e
  simp at this; omega
inductive TsI (s : List Nat) (h : MH) (ts : List Tk) : Nat → Rho → MH → Prop
  | mk {q : Nat} {w : List Nat} {a b : List Tk} {h' : MH} {o1 o2 : Option Val} : s.drop q = w → q ≤ s.length → Skip w w → Lex s.length w b → ts = a ++ b → h'[h.length]? = some (.lst (a.map Tk.v)) → a.length + w.length ≤ s.length → Fr h.length h h' →
      TsI s h ts w.length [some (.str s), some (.loc h.length), some (.int q), o1, o2] h'
theorem Lex.skip {e : Nat} {w w1 : List Nat} {ts : List Tk} (l : Lex e w ts) (x : Skip w w1) : Lex e w1 ts := by
  cases l with
  | done y => exact .done (by cases x.det y; exact x.idem)
  | tok y a b c d => exact .tok (by cases x.det y; exact x.idem) a b c d
theorem read_ok {s : List Nat} {ts : List Tk} {h : MH} {k : Nat} {P : Val → MH → Prop} (ls : s.length ≤ 4000) (lx : Lex s.length s ts)
    (H : ∀ h', h'[h.length]? = some (.lst (ts.map Tk.v)) → Fr h.length h h' → P (.loc h.length) h') : Ok (callK ft (k + 5) i_read_tokens [.str s] h) P := by
  apply Ok_call (F := ⟨1, 5, b_read_tokens⟩) rfl rfl (by decide)
  simp [b_read_tokens]
  refine ⟨by omega, fun _ => ?_⟩
  simp [r_read_tokens_3, lstR_ok (xs := []) (by simp [sizeLine])]
  obtain ⟨w1, sk⟩ : ∃ w1, Skip s w1 := by cases lx with | done x => exact ⟨_, x⟩ | tok x _ _ _ _ => exact ⟨_, x⟩
  apply sks_ok (p := 0) (w := s) rfl (by omega) sk ls
  intro q0 e0 l0
  refine whl_ok (TsI s h ts) ?_ manyTurns w1.length _ _ ?_ (.mk (q := q0) (a := []) (b := ts) e0 l0 sk.idem (lx.skip sk) rfl get_end (by have := sk.len; simp; omega) (Fr.app _ _ _))
  · intro m ρ h' i
    cases i with
    | @mk q w a b h' o1 o2 e l sw lx eab hu lw fr =>
    cases lx with
    | done y =>
      have := sw.det y
      subst this
      have eq := dropN l e
      subst eq
      simp at eab
      subst eab
      simp [r_read_tokens_2]
      exact H h' hu fr
    | @tok w w1 r kd t b sk ne rd rl lx =>
      cases sw.det sk
      have lq : q < s.length := by
        rcases Nat.lt_or_ge q s.length with x | x
        · exact x
        · exfalso; apply ne; rw [← e]; simp; exact x
      have eq := dropE l e
      simp
      refine ⟨fun _ => ?_, fun x => by omega⟩
      simp [w_read_tokens_1]
      apply rd s q _ h' _ e l ls
      intro q2 h2 e2 l2 ap
      obtain ⟨os, rfl⟩ := ap
      have hul : h.length < h'.length := by
        rcases Nat.lt_or_ge h.length h'.length with l | l
        · exact l
        · rw [List.getElem?_eq_none l] at hu; cases hu
      have hu2 : (h' ++ os)[h.length]? = some (.lst (a.map Tk.v)) := by rw [List.getElem?_append_left hul]; exact hu
      simp [asgR, setN, setNs]
      simp [(mtT_loc hu2).1]
      have ap := mt_append (v := .tup [.str kd, .str t, .int q]) hu2 (by simp [sizeLine]; omega)
      simp [ap]
      obtain ⟨w2, sk2⟩ : ∃ w2, Skip r w2 := by cases lx with | done x => exact ⟨_, x⟩ | tok x _ _ _ _ => exact ⟨_, x⟩
      apply sks_ok e2 l2 sk2 ls
      intro q3 e3 l3
      have := sk2.len
      refine ⟨w2.length, by omega, .mk (q := q3) (a := a ++ [⟨kd, t, s.length - w.length⟩]) (b := b) e3 l3 sk2.idem (lx.skip sk2) (by simp [eab]) ?_ (by simp; omega) ?_⟩
      · rw [List.getElem?_set_self (by simp; omega)]
        simp [Tk.v, eq]
      · exact fr.trans ((Fr.app _ _ _).trans (Fr.set _ _ _))
  · have := sk.len
    simp [manyTurns]; omega
end Gu
end

section
set_option linter.all false
set_option Elab.async false
namespace Gu
open PySem L2
set_option maxRecDepth 100000 in
theorem words_ok {k : Nat} {h : MH} {P : Val → MH → Prop} (H : P (.loc h.length) (h ++ [.lst (WORl.map .str)])) : Ok (callK ft (k + 1) i__law_words [] h) P := by
  apply Ok_call (F := ⟨0, 1, b__law_words⟩) rfl rfl (by decide)
  exact OkS_d.2 H
theorem bstr {s t : List Nat} {h : MH} (a : s.length ≤ 100000) (b : t.length ≤ 100000) : binV .Add (.str s) (.str t) h = .ok (.str (s ++ t)) h :=
  bin_str (by simp [sizeLine]; omega)
theorem rngOk {n : Nat} {h : MH} (l : n < 1000) : rng1R (.int n) h = .ok (.rng 0 n) h := by
  rw [rng1R_ok (by omega)]; simp
theorem wor_95 : ∀ w ∈ WORl, 95 ∉ w ∧ w.length ≤ 10 := by decide
theorem ident_ok {h : MH} {d B k : Nat} {first : List Nat} {P : Val → MH → Prop} (D : Dr h d B) (hB : B + 40 < BIG) (hf : first.length = 26) (hF : ∀ c ∈ first, c ∈ FOLl)
    (H : ∀ (t : List Nat) (h' : MH), t ≠ [] → t.headD 0 ∈ first → (∀ c ∈ t, c ∈ FOLl) → t.length ≤ 24 → hw WORl t = false → Dr h' d (B + 40) → Fr d h h' → P (.str t) h') :
    Ok (callK ft (k + 3) i__law_identifier [.loc d, .str first] h) P := by
  have R : ∀ (rest : List Nat) (n B' : Nat) (h' : MH), rest.length = 64 → (∀ c ∈ rest, c ∈ FOLl) → n < 24 → B' ≤ B + 2 → Dr h' d B' → Fr d h h' →
      OkS (evS (callK ft (k + 2)) r__law_identifier_4 [some (.loc d), some (.str first), some (.str rest), some (.int n), none, none] h') (nxt P) P nw0 nw0 := by
    intro rest n B' h' hr hR hn hB' D f
    simp [r__law_identifier_4]
    apply take_ok D (by decide) (by decide) (by omega)
    intro i h1 hi D1 f1
    obtain ⟨c, ec, _, mc⟩ := atI_mem (s := first) (n := i) (by omega)
    simp [ec, rngOk (show n < 1000 by omega)]
    apply forR_ok (fun i ρ h' => ∃ (t : List Nat) (o : Option Val), ρ = [some (.loc d), some (.str first), some (.str rest), some (.int n), some (.str t), o] ∧ t ≠ [] ∧ t.headD 0 ∈ first ∧ (∀ c ∈ t, c ∈ FOLl) ∧ t.length ≤ i + 1 ∧ Dr h' d (B' + 1 + i) ∧ Fr d h h')
    · rintro i ρ h' hi ⟨t, o, rfl, t0, t1, t2, t3, D', f'⟩
      simp [w__law_identifier_1]
      apply take_ok D' (by decide) (by decide) (by omega)
      intro j h2 hj D2 f2
      obtain ⟨c, ec, _, mc⟩ := atI_mem (s := rest) (n := j) (by omega)
      simp [ec]
      rw [bstr (by omega) (by simp)]
      refine Ok_ok.2 ⟨t ++ [c], rfl, by simp, by cases t <;> simp_all, ?_, by simp; omega, D2, f'.trans f2⟩
      intro x hx
      simp at hx
      revert hx
      rintro (hx | rfl)
      · exact t2 x hx
      · exact hR _ mc
    · rintro ρ h' ⟨t, o, rfl, t0, t1, t2, t3, D', f'⟩
      simp [r__law_identifier_3]
      apply words_ok
      rw [in_lstS (L := WORl) (by simp)]
      simp [r__law_identifier_2]
      constructor
      · intro x
        have w := wor_95 t (hw_iff.1 x)
        rw [bstr (by omega) (by simp)]
        simp
        refine H (t ++ [95]) _ (by simp) ?_ ?_ (by simp; omega) ?_ ((D'.mono (by omega)).app _) (f'.trans (Fr.app _ _ _))
        · cases t <;> simp_all
        · intro c m
          simp at m
          rcases m with m | rfl
          · exact t2 c m
          · decide
        · cases e : hw WORl (t ++ [95]) with
          | false => rfl
          | true => exact absurd (by simp) (wor_95 _ (hw_iff.1 e)).1
      · intro x
        exact H t _ t0 t1 t2 (by omega) x ((D'.mono (by omega)).app _) (f'.trans (Fr.app _ _ _))
    · exact ⟨[c], none, rfl, by simp, by simpa using mc, by simpa using hF c mc, by simp, D1, f.trans f1⟩
  apply Ok_call (F := ⟨2, 6, b__law_identifier⟩) rfl rfl (by decide)
  simp [b__law_identifier]
  apply take_ok D (by decide) (by decide) (by omega)
  intro n h1 hn D1 f1
  simp
  constructor
  · intro _
    apply take_ok D1 (by decide) (by decide) (by omega)
    intro n h2 hn D2 f2
    exact R _ n _ h2 rfl (by decide) (by omega) (by omega) D2 (f1.trans f2)
  · intro x
    exact R _ n _ h1 rfl (by decide) (by omega) (by omega) D1 f1
end Gu
end

section
set_option linter.all false
set_option Elab.async false
namespace Gu
open PySem L2
def dg (n : Nat) : Nat := 48 + n
theorem strInt_dig : ∀ n : Nat, n < 10 → strInt n = [dg n] := by decide
theorem dg48 {n : Nat} : dg n = 48 ↔ n = 0 := by unfold dg; omega
theorem strD {n : Nat} {h : MH} (l : n < 10) : biV .str [.int n] h = .ok (.str [dg n]) h := by
  have e := strInt_dig n l
  rw [bi_str ⟨?_, ?_⟩, e]
  · have := lg (i := (n : Int)) (n := 10) (by omega); omega
  · rw [e]; simp [sizeLine]
theorem dig_mem : ∀ n : Nat, n < 10 → dg n ∈ DIGl := by decide
theorem digits_ok {h : MH} {d B k : Nat} {P : Val → MH → Prop} (D : Dr h d B) (hB : B + 40 < BIG)
    (H : ∀ (t : List Nat) (h' : MH), t ≠ [] → (∀ c ∈ t, c ∈ DIGl) → t.length ≤ 18 → (1 < t.length → t.headD 0 ≠ 48) → Dr h' d (B + 40) → Fr d h h' → P (.str t) h') :
    Ok (callK ft (k + 3) i__law_digits [.loc d] h) P := by
  have R : ∀ (n B' : Nat) (h' : MH), n < 18 → B' ≤ B + 2 → Dr h' d B' → Fr d h h' →
      OkS (evS (callK ft (k + 2)) r__law_digits_4 [some (.loc d), some (.int n), none, none] h') (nxt P) P nw0 nw0 := by
    intro n B' h' hn hB' D f
    simp [r__law_digits_4]
    apply take_ok D (by decide) (by decide) (by omega)
    intro i h1 hi D1 f1
    simp [strD (show i < 10 by omega)]
    constructor
    · intro e
      rw [e]
      exact H [48] h1 (by simp) (fun c m => by simp at m; subst m; exact (show dg 0 ∈ DIGl from dig_mem 0 (by omega))) (by simp) (by simp) (D1.mono (by omega)) (f.trans f1)
    · intro ne
      simp [r__law_digits_3, rngOk (show n < 1000 by omega)]
      apply forR_ok (fun j ρ h' => ∃ (t : List Nat) (o : Option Val), ρ = [some (.loc d), some (.int n), some (.str t), o] ∧ t ≠ [] ∧ t.headD 0 ≠ 48 ∧ (∀ c ∈ t, c ∈ DIGl) ∧ t.length ≤ j + 1 ∧ Dr h' d (B' + 1 + j) ∧ Fr d h h')
      · rintro j ρ h' hj ⟨t, o, rfl, t0, t1, t2, t3, D', f'⟩
        simp [w__law_digits_1]
        apply take_ok D' (by decide) (by decide) (by omega)
        intro m h2 hm D2 f2
        simp [strD (show m < 10 by omega)]
        rw [bstr (by omega) (by simp)]
        refine Ok_ok.2 ⟨t ++ [dg m], rfl, by simp, by cases t <;> simp_all, ?_, by simp; omega, D2, f'.trans f2⟩
        intro x hx
        simp at hx
        rcases hx with hx | rfl
        · exact t2 x hx
        · exact dig_mem m (by omega)
      · rintro ρ h' ⟨t, o, rfl, t0, t1, t2, t3, D', f'⟩
        simp [r__law_digits_2]
        exact H t h' t0 t2 (by omega) (fun _ => t1) (D'.mono (by omega)) f'
      · exact ⟨[dg i], none, rfl, by simp, by simpa using ne, by simpa using dig_mem i (by omega), by simp, D1, f.trans f1⟩
  apply Ok_call (F := ⟨1, 4, b__law_digits⟩) rfl rfl (by decide)
  simp [b__law_digits]
  apply take_ok D (by decide) (by decide) (by omega)
  intro n h1 hn D1 f1
  simp
  constructor
  · intro _
    apply take_ok D1 (by decide) (by decide) (by omega)
    intro n h2 hn D2 f2
    exact R n _ h2 (by omega) (by omega) D2 (f1.trans f2)
  · intro x
    exact R n _ h1 (by omega) (by omega) D1 f1
theorem string_ok {h : MH} {d B k : Nat} {P : Val → MH → Prop} (D : Dr h d B) (hB : B + 40 < BIG)
    (H : ∀ (t : List Nat) (h' : MH), t.length ≤ 9 → Dr h' d (B + 40) → Fr d h h' → P (.str t) h') :
    Ok (callK ft (k + 3) i__law_string [.loc d] h) P := by
  apply Ok_call (F := ⟨1, 4, b__law_string⟩) rfl rfl (by decide)
  simp [b__law_string]
  rw [bstr (by simp) (by simp)]
  simp
  apply take_ok D (by decide) (by decide) (by omega)
  intro n h1 hn D1 f1
  generalize hL : (_ :: _ : List Nat) = L
  have hl : L.length = 95 := by rw [← hL]; rfl
  simp [rngOk (show n < 1000 by omega)]
  apply forR_ok (fun j ρ h' => ∃ (t : List Nat) (o : Option Val), ρ = [some (.loc d), some (.str L), some (.str t), o] ∧ t.length ≤ j ∧ Dr h' d (B + 1 + j) ∧ Fr d h h')
  · rintro j ρ h' hj ⟨t, o, rfl, t3, D', f'⟩
    simp [w__law_string_1]
    apply take_ok D' (by decide) (by decide) (by omega)
    intro m h2 hm D2 f2
    obtain ⟨c, ec, _, mc⟩ := atI_mem (s := L) (n := m) (by omega)
    simp [ec]
    rw [bstr (by omega) (by simp)]
    exact Ok_ok.2 ⟨t ++ [c], rfl, by simp; omega, D2, f'.trans f2⟩
  · rintro ρ h' ⟨t, o, rfl, t3, D', f'⟩
    simp [r__law_string_2]
    exact H t h' (by omega) (D'.mono (by omega)) f'
  · exact ⟨[], none, rfl, by simp, D1, f1⟩
theorem esc_app (a : List Nat) (c : Nat) : esc (a ++ [c]) = esc a ++ esc1 c := by
  induction a with
  | nil => simp [esc]
  | cons x a ih => simp [esc, ih]
theorem esc_len2 (t : List Nat) : (esc t).length ≤ 2 * t.length := by
  induction t with
  | nil => simp [esc]
  | cons c t ih => simp [esc, esc1]; split <;> (try split) <;> simp <;> omega
theorem quoted_ok {h : MH} {k : Nat} {t : List Nat} {P : Val → MH → Prop} (l : t.length ≤ 100) (H : P (.str (34 :: (esc t ++ [34]))) h) :
    Ok (callK ft (k + 1) i__law_quoted [.str t] h) P := by
  apply Ok_call (F := ⟨1, 3, b__law_quoted⟩) rfl rfl (by decide)
  simp [b__law_quoted]
  apply forV_ok (fun j ρ h' => h' = h ∧ ∃ o, ρ = [some (.str t), some (.str (esc (t.take j))), o])
  · rintro j ρ h' x hx ⟨rfl, o, rfl⟩
    rw [List.getElem?_map, Option.map_eq_some_iff] at hx
    obtain ⟨c, hc, rfl⟩ := hx
    have ea : esc (t.take (j + 1)) = esc (t.take j) ++ esc1 c := by
      rw [List.take_add_one, hc]; exact esc_app _ _
    have l2 := esc_len2 (t.take j)
    simp at l2
    simp [w__law_quoted_1]
    rw [ea]
    unfold esc1
    refine ⟨fun e => ?_, fun e => ⟨fun e1 => ?_, fun e1 => ⟨fun e2 => ?_, fun e2 => ?_⟩⟩⟩
    · rw [bstr (by omega) (by simp)]; simp [e]
    · rw [bstr (by omega) (by simp)]; simp; rw [bstr (by simp; omega) (by simp)]; simp [e, e1]
    · rw [bstr (by omega) (by simp)]; simp; rw [bstr (by simp; omega) (by simp)]; simp [e, e1, e2]
    · rw [bstr (by omega) (by simp)]; simp [e, e1, e2]
  · rintro ρ h' ⟨rfl, o, rfl⟩
    have l2 := esc_len2 t
    simp [r__law_quoted_2]
    rw [bstr (by simp) (by omega)]
    simp
    rw [bstr (by simp; omega) (by simp)]
    simp
    exact H
  · exact ⟨rfl, none, by simp [esc]⟩
end Gu
end

section
set_option linter.all false
set_option Elab.async false
namespace Gu
open PySem L2
/-- a drawn token: kind, text, how it is written -/
inductive Tkn : List Nat → List Nat → List Nat → Prop
  | nm {t : List Nat} : t ≠ [] → (t.headD 0 ∈ LOWl ∨ t.headD 0 ∈ HIGHl) → (∀ c ∈ t, c ∈ FOLl) → t.length ≤ 24 → Tkn (kName t) t t
  | var {c : Nat} : c ∈ LOWl → Tkn kVAR [c] [39, c]
  | int {t : List Nat} : t ≠ [] → (∀ c ∈ t, c ∈ DIGl) → t.length ≤ 18 → (1 < t.length → t.headD 0 ≠ 48) → Tkn kINT t t
  | str {t : List Nat} : t.length ≤ 9 → Tkn kSTR t (34 :: (esc t ++ [34]))
  | sign {t : List Nat} : t ∈ SIGl → Tkn kSIGN t t
/-- what may stand behind it at once -/
def Aft (kd t : List Nat) (hd : Option Nat) : Prop :=
  kd = kSTR ∨ (kd = kSIGN ∧ signOk t hd = true ∧ (t = [40] → hd ≠ some 42)) ∨ (kd ≠ kSTR ∧ kd ≠ kSIGN ∧ ∀ c, hd = some c → c ∉ FOLl)
theorem kName_ne (t : List Nat) : kName t ≠ kSTR ∧ kName t ≠ kSIGN := by
  unfold kName; split
  · decide
  · split <;> decide
theorem Tkn.ne {kd t s : List Nat} (x : Tkn kd t s) : s ≠ [] := by
  cases x with
  | nm a _ _ _ => exact a
  | var _ => simp
  | int a _ _ _ => exact a
  | str _ => simp
  | sign a => intro e; subst e; exact absurd a (by decide)
theorem Tkn.len {kd t s : List Nat} (x : Tkn kd t s) : s.length ≤ 30 := by
  cases x with
  | nm _ _ _ a => omega
  | var _ => simp
  | int _ _ a _ => omega
  | @str t a => have := esc_len2 t; simp; omega
  | sign a => have : ∀ t ∈ SIGl, t.length ≤ 30 := by decide
              exact this _ a
theorem Tkn.rd {kd t s r : List Nat} (x : Tkn kd t s) (a : Aft kd t r.head?) : Rd (s ++ r) kd t r := by
  cases x with
  | nm a0 a1 a2 a3 =>
    have n := kName_ne t
    rcases a with a | a | a
    · exact absurd a n.1
    · exact absurd a.1 n.2
    · exact rd_name a0 a1 a2 a3 a.2.2
  | var m =>
    rcases a with a | a | a
    · exact absurd a (by decide)
    · exact absurd a.1 (by decide)
    · exact rd_var m a.2.2
  | int a0 a1 a2 a3 =>
    rcases a with a | a | a
    · exact absurd a (by decide)
    · exact absurd a.1 (by decide)
    · exact rd_num a0 a1 a2 a3 a.2.2
  | @str t a0 =>
    have := rd_str (t := t) (r := r)
    simpa using this
  | sign m =>
    rcases a with a | a | a
    · exact absurd a (by decide)
    · exact rd_sign a.2.1
    · exact absurd rfl a.2.1
theorem fol_sp : ∀ c ∈ FOLl, c ≠ 32 ∧ c ≠ 10 ∧ c ≠ 40 ∧ c ≠ 42 ∧ c ≠ 34 := by decide
theorem sig_sp : ∀ t ∈ SIGl, t.headD 0 ≠ 32 ∧ t.headD 0 ≠ 10 ∧ (t.headD 0 = 40 → t = [40]) ∧ t ≠ [] ∧ (t.headD 0 = 42 → t = [42]) ∧ (t ≠ [95] → t.headD 0 ∉ FOLl) := by decide
theorem Tkn.skip {kd t s r : List Nat} (x : Tkn kd t s) (a : Aft kd t r.head?) : Skip (s ++ r) (s ++ r) := by
  cases x with
  | nm a0 a1 a2 a3 =>
    match t, a0 with
    | c :: t, _ =>
      have := fol_sp c (a2 c (by simp))
      exact .stop this.1 this.2.1 (fun x => this.2.2.1 x.1)
  | var m => exact .stop (by decide) (by decide) (by simp)
  | int a0 a1 a2 a3 =>
    match t, a0 with
    | c :: t, _ =>
      have := fol_sp c (dig_fol c (a1 c (by simp)))
      exact .stop this.1 this.2.1 (fun x => this.2.2.1 x.1)
  | str a0 => exact .stop (by decide) (by decide) (by simp)
  | sign m =>
    have q := sig_sp t m
    match t, m, q, a with
    | [], m, q, a => exact absurd rfl q.2.2.2.1
    | c :: t, m, q, a =>
      refine .stop q.1 q.2.1 ?_
      rintro ⟨x, y⟩
      have e := q.2.2.1 x
      simp at e
      obtain ⟨rfl, rfl⟩ := e
      rcases a with a | a | a
      · exact absurd a (by decide)
      · exact a.2.2 rfl y
      · exact a.2.1 rfl
def gapH : List (Option Nat) := [none, some 32, some 10, some 40]
theorem sig_gap : ∀ t ∈ SIGl, ∀ x ∈ gapH, signOk t x = true ∧ x ≠ some 42 := by decide
theorem Tkn.gap {kd t s : List Nat} {x : Option Nat} (k : Tkn kd t s) (g : x ∈ gapH) : Aft kd t x := by
  have nf : ∀ c, x = some c → c ∉ FOLl := by
    rintro c rfl m
    have := fol_sp c m
    simp [gapH] at g
    omega
  cases k with
  | nm => exact .inr (.inr ⟨(kName_ne t).1, (kName_ne t).2, nf⟩)
  | var => exact .inr (.inr ⟨by decide, by decide, nf⟩)
  | int => exact .inr (.inr ⟨by decide, by decide, nf⟩)
  | str => exact .inl rfl
  | sign m => exact .inr (.inl ⟨rfl, (sig_gap t m x g).1, fun _ => (sig_gap t m x g).2⟩)
theorem lon_h : ∀ w ∈ LONl, w.headD 0 ∉ [40, 41, 93, 44, 59, 91] := by decide
theorem sig_any : ∀ c ∈ [40, 41, 93, 44, 59, 91], ∀ x, signOk [c] x = true := by
  intro c m x
  have w : hw LONl (c :: x.toList) = false := by
    cases e : hw LONl (c :: x.toList) with
    | false => rfl
    | true => exact absurd m (lon_h _ (hw_iff.1 e))
  have q : ∀ c ∈ [40, 41, 93, 44, 59, 91], (!hs LOWl c && !hs HIGHl c && !hs DIGl c && c != 34 && c != 39 && hs SHOl c) = true := by decide
  have q := q c m
  simp only [signOk, w, q]; rfl
/-- the token before, as a value, and what may stand behind it -/
inductive Lf : Val → (Option Nat → Prop) → Prop
  | non : Lf .non (fun _ => True)
  | tok {kd t s : List Nat} : Tkn kd t s → Lf (.tup [.str kd, .str t, .str s]) (Aft kd t)
theorem Lf.gap {v : Val} {A : Option Nat → Prop} {x : Option Nat} (l : Lf v A) (g : x ∈ gapH) : A x := by
  cases l with
  | non => trivial
  | tok k => exact k.gap g
theorem apart_non {v : Val} {k : Nat} {h : MH} {P : Val → MH → Prop} (H : P (.bl true) h) (hv : v = .non ∨ ∃ xs, v = .tup xs) : Ok (callK ft (k + 1) i__law_apart [v, .non] h) P := by
  apply Ok_call (F := ⟨2, 2, b__law_apart⟩) rfl rfl (by decide)
  simp [b__law_apart]
  rcases hv with rfl | ⟨xs, rfl⟩ <;> simp [Val.isNon, H]
theorem apart_ok {v : Val} {A : Option Nat → Prop} {k : Nat} {h : MH} {kd t s : List Nat} {P : Val → MH → Prop} (l : Lf v A) (x : Tkn kd t s)
    (H : ∀ b : Bool, (b = true → A s.head?) → P (.bl b) h) : Ok (callK ft (k + 1) i__law_apart [v, .tup [.str kd, .str t, .str s]] h) P := by
  apply Ok_call (F := ⟨2, 2, b__law_apart⟩) rfl rfl (by decide)
  cases l with
  | non => simp [b__law_apart, Val.isNon]; exact H _ (fun _ => trivial)
  | @tok kd1 t1 s1 x1 =>
    simp [b__law_apart, Val.isNon, r__law_apart_4]
    refine ⟨fun e => H _ (fun _ => .inl e), fun e => ?_⟩
    simp [r__law_apart_3]
    -- the head of the right one
    have hr : (kd = kSIGN → t ≠ [95] → ∀ c, s.head? = some c → c ∉ FOLl) ∧ (kd = kSTR → ∀ c, s.head? = some c → c ∉ FOLl) ∧ ((t ≠ [42] ∨ kd ≠ kSIGN) → s.head? ≠ some 42) := by
      cases x with
      | nm a0 a1 a2 a3 =>
        refine ⟨fun e => absurd e (kName_ne t).2, fun e => absurd e (kName_ne t).1, fun _ e => ?_⟩
        match t, a0, e with
        | c :: t, _, e => simp at e; subst e; exact (fol_sp _ (a2 _ (by simp))).2.2.2.1 rfl
      | var m => exact ⟨fun e => absurd e (by decide), fun e => absurd e (by decide), fun _ e => by simp at e⟩
      | int a0 a1 a2 a3 =>
        refine ⟨fun e => absurd e (by decide), fun e => absurd e (by decide), fun _ e => ?_⟩
        match t, a0, e with
        | c :: t, _, e => simp at e; subst e; exact (fol_sp _ (dig_fol _ (a1 _ (by simp)))).2.2.2.1 rfl
      | str a0 =>
        refine ⟨fun e => absurd e (by decide), fun _ c e m => ?_, fun _ e => by simp at e⟩
        simp at e; subst e; exact (fol_sp _ m).2.2.2.2 rfl
      | sign m =>
        have q := sig_sp t m
        refine ⟨fun _ e c he m => ?_, fun e => absurd e (by decide), fun e he => ?_⟩
        · match t, he, q with
          | c :: t, he, q => simp at he; subst he; exact q.2.2.2.2.2 e m
        · rcases e with e | e
          · match t, he, q with
            | c :: t, he, q => simp at he; subst he; exact e (q.2.2.2.2.1 rfl)
          · exact e rfl
    have ns : ¬ kd1 = kSIGN → ∀ b : Bool, (b = true → ((kd = kSIGN ∧ t ≠ [95]) ∨ kd = kSTR)) → P (.bl b) h := by
      intro e2 b hb
      apply H b
      intro bt
      refine .inr (.inr ⟨e, e2, ?_⟩)
      rcases hb bt with x | x
      · exact hr.1 x.1 x.2
      · exact hr.2.1 x
    constructor
    · intro e2
      simp [r__law_apart_2]
      have m1 : t1 ∈ SIGl := by
        cases x1 with
        | nm => exact absurd e2 (kName_ne t1).2
        | var => exact absurd e2 (by decide)
        | int => exact absurd e2 (by decide)
        | str => exact absurd e2 (by decide)
        | sign m => exact m
      subst e2
      have sg : ∀ c ∈ [40, 41, 93, 44, 59, 91], t1 = [c] → (c = 40 → s.head? ≠ some 42) → Aft kSIGN t1 s.head? := by
        intro c m ec w
        subst ec
        exact .inr (.inl ⟨rfl, sig_any c m _, fun x => w (by simpa using x)⟩)
      have P1 : ∀ b : Bool, (b = true → t1 = [40] ∧ (t ≠ [42] ∨ kd ≠ kSIGN)) → P (.bl b) h :=
        fun b hb => H b fun bt => sg 40 (by decide) (hb bt).1 (fun _ => hr.2.2 (hb bt).2)
      have P2 : ∀ b : Bool, (b = true → t1 ≠ [40] ∧ (t1 = [41] ∨ t1 = [93] ∨ t1 = [44] ∨ t1 = [59] ∨ t1 = [91])) → P (.bl b) h := by
        intro b hb
        apply H b
        intro bt
        rcases (hb bt).2 with x | x | x | x | x
        · exact sg 41 (by decide) x (fun e => absurd e (by decide))
        · exact sg 93 (by decide) x (fun e => absurd e (by decide))
        · exact sg 44 (by decide) x (fun e => absurd e (by decide))
        · exact sg 59 (by decide) x (fun e => absurd e (by decide))
        · exact sg 91 (by decide) x (fun e => absurd e (by decide))
      constructor
      · intro e3
        constructor
        · intro e4; exact P1 _ (fun z => ⟨e3, .inr (by simpa using z)⟩)
        · intro e4; exact P1 _ (fun z => ⟨e3, .inl e4⟩)
      · intro e3
        simp [r__law_apart_1]
        refine ⟨fun a => P2 _ fun _ => ⟨e3, by simp [a]⟩, fun _ => ⟨fun a => P2 _ fun _ => ⟨e3, by simp [a]⟩, fun _ => ⟨fun a => P2 _ fun _ => ⟨e3, by simp [a]⟩, fun _ => ⟨fun a => P2 _ fun _ => ⟨e3, by simp [a]⟩, fun _ => P2 _ fun z => ⟨e3, ?_⟩⟩⟩⟩⟩
        have : t1 = [91] := by simpa using z
        simp [this]
    · intro e2
      refine ⟨fun e3 => ⟨fun e4 => ns e2 _ (fun _ => .inl ⟨e3, e4⟩), fun e4 => ns e2 _ (fun z => .inr (by simpa using z))⟩, fun e3 => ⟨fun e4 => absurd e4 e3, fun _ => ns e2 _ (fun z => .inr (by simpa using z))⟩⟩
end Gu
end

section
set_option linter.all false
set_option Elab.async false
namespace Gu
open PySem L2
theorem wor_ok : ∀ t ∈ WORl, t ≠ [] ∧ t.headD 0 ∈ LOWl ∧ (∀ c ∈ t, c ∈ FOLl) ∧ t.length ≤ 24 := by decide
theorem low_high : ∀ c ∈ HIGHl, hs LOWl c = false := by decide
theorem high_fol : ∀ c ∈ HIGHl, c ∈ FOLl := by decide
theorem atM {L : List (List Nat)} {n : Nat} (l : n < L.length) : ∃ t, atI (L.map Val.str) (n : Int) = some (.str t) ∧ t ∈ L := by
  refine ⟨L[n], ?_, List.getElem_mem l⟩
  apply atI_lt
  rw [List.getElem?_map, List.getElem?_eq_getElem l]; rfl
set_option maxRecDepth 100000 in
theorem signs_e : splitC 32 [] [40, 32, 41, 32, 91, 32, 93, 32, 44, 32, 59, 32, 58, 32, 58, 62, 32, 61, 32, 61, 62, 32, 45, 62, 32, 124, 32, 95, 32, 46, 32, 42, 32, 43, 32, 45, 32, 94, 32, 58, 58, 32, 60, 32, 60, 61, 32, 62, 32, 62, 61, 32, 60, 62, 32, 58, 61, 32, 33, 32, 126] = SIGl := by decide
theorem lst7 {a b c d e f g : Val} {h : MH} : lstR [a, b, c, d, e, f, g] h = .ok (.loc h.length) (h ++ [.lst [a, b, c, d, e, f, g]]) := lstR_ok (by simp [sizeLine])
theorem token_ok {h : MH} {d B k : Nat} {P : Val → MH → Prop} (D : Dr h d B) (hB : B + 60 < BIG)
    (H : ∀ (kd t s : List Nat) (h' : MH), Tkn kd t s → Dr h' d (B + 60) → Fr d h h' → P (.tup [.str kd, .str t, .str s]) h') :
    Ok (callK ft (k + 4) i__law_token [.loc d] h) P := by
  apply Ok_call (F := ⟨1, 5, b__law_token⟩) rfl rfl (by decide)
  simp [b__law_token, lst7]
  apply take_ok (D.app _) (by decide) (by decide) (by omega)
  intro n h1 hn D1 f1
  have hu : h1[h.length]? = some (.lst [.str kLOW, .str kHIGH, .str kVAR, .str kINT, .str kSTR, .str kWORD, .str kSIGN]) := f1.get (by have := D.lt; omega) get_end
  have f1 : Fr d h h1 := (Fr.app _ _ _).trans f1
  rw [idx_loc hu]
  have hn : n = 0 ∨ n = 1 ∨ n = 2 ∨ n = 3 ∨ n = 4 ∨ n = 5 ∨ n = 6 := by omega
  have w : ∀ t, hw WORl t = true → kName t = kWORD := fun t x => by simp [kName, x]
  rcases hn with rfl | rfl | rfl | rfl | rfl | rfl | rfl
  · simp
    apply ident_ok D1 (by omega) rfl (by exact low_fol)
    intro t h2 t0 t1 t2 t3 t4 D2 f2
    simp [tk3]
    refine H kLOW t t h2 ?_ (D2.mono (by omega)) (f1.trans f2)
    have e : kName t = kLOW := by
      have q : hs LOWl (t.headD 0) = true := hs_iff.2 t1
      simp only [kName, t4, q]; rfl
    have := Tkn.nm t0 (.inl t1) t2 t3
    rwa [e] at this
  · simp [r__law_token_6]
    apply ident_ok D1 (by omega) rfl (by exact high_fol)
    intro t h2 t0 t1 t2 t3 t4 D2 f2
    simp [tk3]
    refine H kHIGH t t h2 ?_ (D2.mono (by omega)) (f1.trans f2)
    have e : kName t = kHIGH := by
      have q : hs LOWl (t.headD 0) = false := low_high _ t1
      simp only [kName, t4, q]; rfl
    have := Tkn.nm t0 (.inr t1) t2 t3
    rwa [e] at this
  · simp [r__law_token_6, r__law_token_5]
    apply take_ok D1 (by decide) (by decide) (by omega)
    intro i h2 hi D2 f2
    obtain ⟨c, ec, _, mc⟩ := atI_mem (s := LOWl) (n := i) (by simp [LOWl]; omega)
    unfold LOWl at ec
    simp [ec, tk3]
    rw [bstr (by simp) (by simp)]
    simp [tk3]
    exact H kVAR [c] [39, c] h2 (.var mc) (D2.mono (by omega)) (f1.trans f2)
  · simp [r__law_token_6, r__law_token_5, r__law_token_4]
    apply digits_ok D1 (by omega)
    intro t h2 t0 t1 t2 t3 D2 f2
    simp [tk3]
    exact H kINT t t h2 (.int t0 t1 t2 t3) (D2.mono (by omega)) (f1.trans f2)
  · simp [r__law_token_6, r__law_token_5, r__law_token_4, r__law_token_3]
    apply string_ok D1 (by omega)
    intro t h2 t1 D2 f2
    apply quoted_ok (by omega)
    simp [tk3]
    exact H kSTR t _ h2 (.str t1) (D2.mono (by omega)) (f1.trans f2)
  · simp [r__law_token_6, r__law_token_5, r__law_token_4, r__law_token_3, r__law_token_2]
    apply words_ok
    have g := get_end (h := h1) (o := .lst (WORl.map .str))
    simp [bi_lenL g]
    apply take_ok (D1.app _) (by decide) (by decide) (by omega)
    intro i h2 hi D2 f2
    have g2 := f2.get (by have := D1.lt; omega) g
    obtain ⟨t, et, mt⟩ := atM (L := WORl) (n := i) (by omega)
    have q := wor_ok t mt
    simp [idx_loc g2, et, tk3]
    have := Tkn.nm q.1 (.inl q.2.1) q.2.2.1 q.2.2.2
    rw [w t (hw_iff.2 mt)] at this
    exact H kWORD t t h2 this (D2.mono (by omega)) (f1.trans ((Fr.app _ _ _).trans f2))
  · simp [r__law_token_6, r__law_token_5, r__law_token_4, r__law_token_3, r__law_token_2, r__law_token_1]
    have ms : mtV .split (.str [40, 32, 41, 32, 91, 32, 93, 32, 44, 32, 59, 32, 58, 32, 58, 62, 32, 61, 32, 61, 62, 32, 45, 62, 32, 124, 32, 95, 32, 46, 32, 42, 32, 43, 32, 45, 32, 94, 32, 58, 58, 32, 60, 32, 60, 61, 32, 62, 32, 62, 61, 32, 60, 62, 32, 58, 61, 32, 33, 32, 126]) [.str [32]] h1 = .ok (.loc h1.length) (h1 ++ [.lst (SIGl.map .str)]) := by
      rw [← signs_e]; rfl
    rw [ms]
    have g := get_end (h := h1) (o := .lst (SIGl.map .str))
    simp [bi_lenL g]
    apply take_ok (D1.app _) (by decide) (by decide) (by omega)
    intro i h2 hi D2 f2
    have g2 := f2.get (by have := D1.lt; omega) g
    obtain ⟨t, et, mt⟩ := atM (L := SIGl) (n := i) (by omega)
    simp [idx_loc g2, et, tk3]
    exact H kSIGN t t h2 (.sign mt) (D2.mono (by omega)) (f1.trans ((Fr.app _ _ _).trans f2))
end Gu
end

section
set_option linter.all false
set_option Elab.async false
namespace Gu
open PySem L2
theorem com_step {n c d : Nat} {r : List Nat} (a : ¬ (c = 40 ∧ d = 42)) (b : ¬ (c = 42 ∧ d = 41)) : com n (c :: d :: r) = com n (d :: r) := by
  rw [com]; rw [if_neg a, if_neg b]
theorem com_one {n c : Nat} {r : List Nat} (a : c ≠ 40) (b : c ≠ 42) : com n (c :: r) = com n r := by
  cases r with
  | nil => simp [com]
  | cons d r => exact com_step (fun x => a x.1) (fun x => b x.1)
theorem com_open {n : Nat} {r : List Nat} : com n (40 :: 42 :: r) = com (n + 1) r := by
  rw [com]; simp
theorem com_close {n : Nat} {r : List Nat} : com (n + 1) (42 :: 41 :: r) = if n = 0 then some r else com n r := by
  rw [com]; simp
/-- it changes no depth -/
def Bod (b : List Nat) : Prop := ∀ n r, com (n + 1) (b ++ r) = com (n + 1) r
theorem Bod.app {a b : List Nat} (x : Bod a) (y : Bod b) : Bod (a ++ b) := by
  intro n r; rw [List.append_assoc, x, y]
def PIEl : List (List Nat) := [[32], [10], [97], [34, 32], [39, 32], [92], [35, 32], [40, 32], [32, 41, 32], [118, 97, 108], [42, 42, 32], [49, 97]]
theorem pie_bod {p : List Nat} (m : p ∈ PIEl) : Bod p ∧ p.length ≤ 3 := by
  have f : ∀ p : List Nat, (∀ c ∈ p, c ≠ 40 ∧ c ≠ 42) → Bod p := by
    intro p
    induction p with
    | nil => intro _ n r; rfl
    | cons c p ih =>
      intro h n r
      have hc := h c (by simp)
      show com (n + 1) (c :: (p ++ r)) = _
      rw [com_one hc.1 hc.2, ih (fun x hx => h x (by simp [hx]))]
  simp only [PIEl, List.mem_cons, List.not_mem_nil, or_false] at m
  rcases m with rfl | rfl | rfl | rfl | rfl | rfl | rfl | rfl | rfl | rfl | rfl | rfl
  case inr.inr.inr.inr.inr.inr.inr.inl =>
    refine ⟨fun n r => ?_, by simp⟩
    show com (n + 1) (40 :: 32 :: r) = _
    rw [com_step (by simp) (by simp), com_one (by decide) (by decide)]
  case inr.inr.inr.inr.inr.inr.inr.inr.inr.inr.inl =>
    refine ⟨fun n r => ?_, by simp⟩
    show com (n + 1) (42 :: 42 :: 32 :: r) = _
    rw [com_step (by simp) (by simp), com_step (by simp) (by simp), com_one (by decide) (by decide)]
  all_goals exact ⟨f _ (by decide), by simp⟩
/-- a comment -/
def Com (c : List Nat) : Prop := ∃ b, c = 40 :: 42 :: b ∧ ∀ n r, com (n + 1) (b ++ r) = if n = 0 then some r else com n r
theorem Com.bod {c : List Nat} (x : Com c) : Bod c := by
  obtain ⟨b, rfl, h⟩ := x
  intro n r
  show com (n + 1) (40 :: 42 :: (b ++ r)) = _
  rw [com_open, h, if_neg (by omega)]
theorem Com.skip {c r w : List Nat} (x : Com c) (y : Skip r w) : Skip (c ++ r) w := by
  obtain ⟨b, rfl, h⟩ := x
  show Skip (40 :: 42 :: (b ++ r)) w
  exact .co (by rw [h 0, if_pos rfl]) y
theorem bod_com {b : List Nat} (x : Bod b) {t : List Nat} (m : t = [] ∨ t = [32] ∨ t = [42]) : Com (40 :: 42 :: (b ++ (t ++ [42, 41]))) := by
  refine ⟨_, rfl, fun n r => ?_⟩
  rw [List.append_assoc, x]
  rcases m with rfl | rfl | rfl
  · exact com_close
  · show com (n + 1) (32 :: 42 :: 41 :: r) = _
    rw [com_one (by decide) (by decide)]; exact com_close
  · show com (n + 1) (42 :: 42 :: 41 :: r) = _
    rw [com_step (by simp) (by simp)]; exact com_close
theorem rngT {n : Nat} {h : MH} {P : Items → MH → Prop} (l : n < 1000) (H : P (.rng 0 n) h) : Ok (rng1R (.int n) h) P := by
  rw [rngOk l]; exact Ok_ok.2 H
theorem lst12 {a b c d e f g i j k l m : Val} {h : MH} : lstR [a, b, c, d, e, f, g, i, j, k, l, m] h = .ok (.loc h.length) (h ++ [.lst [a, b, c, d, e, f, g, i, j, k, l, m]]) := lstR_ok (by simp [sizeLine])
theorem lst3 {a b c : Val} {h : MH} : lstR [a, b, c] h = .ok (.loc h.length) (h ++ [.lst [a, b, c]]) := lstR_ok (by simp [sizeLine])
def cst : Nat → Nat
  | 0 => 20
  | n + 1 => 4 * cst n
theorem cst_ge (n : Nat) : 20 ≤ cst n := by
  induction n with
  | zero => simp [cst]
  | succ n ih => simp [cst]; omega
theorem comment_ok {d : Nat} : ∀ (dep k : Nat) (h : MH) (B : Nat) (P : Val → MH → Prop), dep ≤ 2 → Dr h d B → B + cst dep < BIG →
    (∀ (c : List Nat) (h' : MH), Com c → c.length ≤ cst dep → Dr h' d (B + cst dep) → Fr d h h' → P (.str c) h') →
    Ok (callK ft (k + dep + 3) i__law_comment [.loc d, .int dep] h) P := by
  intro dep
  induction dep with
  | zero =>
    intro k h B P _ D hB H
    simp only [cst] at hB H
    apply Ok_call (F := ⟨2, 5, b__law_comment⟩) rfl rfl (by decide)
    simp [b__law_comment, lst12]
    apply take_ok (D.app _) (by decide) (by decide) (by omega)
    intro n h1 hn D1 f1
    have g := f1.get (by have := D.lt; omega) get_end
    have f1 : Fr d h h1 := (Fr.app _ _ _).trans f1
    apply rngT (by omega)
    apply forR_ok (fun i ρ h' => ∃ (b : List Nat) (o : Option Val), ρ = [some (.loc d), some (.int 0), some (.loc h.length), some (.str (40 :: 42 :: b)), o] ∧ Bod b ∧ b.length ≤ 3 * i ∧ Dr h' d (B + 1 + i) ∧ Fr d h h' ∧ h'[h.length]? = some (.lst (PIEl.map .str)))
    · rintro i ρ h' hi ⟨b, o, rfl, hb, lb, D', f', g'⟩
      simp [w__law_comment_1]
      apply take_ok D' (by decide) (by decide) (by omega)
      intro j h2 hj D2 f2
      have g2 := f2.get (by have := D.lt; omega) g'
      obtain ⟨t, et, mt⟩ := atM (L := PIEl) (n := j) (by simp [PIEl]; omega)
      have pb := pie_bod mt
      simp [idx_loc g2, et]
      rw [bstr (by simp; omega) (by omega)]
      simp
      exact ⟨hb.app pb.1, by omega, D2.mono (by omega), f'.trans f2, by simpa using g2⟩
    · rintro ρ h' ⟨b, o, rfl, hb, lb, D', f', g'⟩
      simp [r__law_comment_2, lst3]
      apply take_ok (D'.app _) (by decide) (by decide) (by omega)
      intro j h2 hj D2 f2
      have g2 := f2.get (by have := D'.lt; omega) get_end
      have f2 : Fr d h' h2 := (Fr.app _ _ _).trans f2
      simp [idx_loc g2]
      have hj : j = 0 ∨ j = 1 ∨ j = 2 := by omega
      have fin : ∀ t : List Nat, (t = [] ∨ t = [32] ∨ t = [42]) → Ok (binV .Add (.str (40 :: 42 :: b)) (.str t) h2) fun a h => Ok (binV .Add a (.str [42, 41]) h) P := by
        intro t ht
        have lt : t.length ≤ 1 := by rcases ht with rfl | rfl | rfl <;> simp
        rw [bstr (by simp; omega) (by omega)]
        simp
        rw [bstr (by simp; omega) (by simp)]
        simp
        exact H _ _ (bod_com hb ht) (by simp; omega) (D2.mono (by omega)) (f'.trans f2)
      rcases hj with rfl | rfl | rfl
      · simpa using fin [] (by simp)
      · simpa using fin [32] (by simp)
      · simpa using fin [42] (by simp)
    · exact ⟨[], none, by simp, fun n r => rfl, by simp, D1, f1, g⟩
  | succ dep ih =>
    intro k h B P hd D hB H
    have c0 := cst_ge dep
    have ce : cst (dep + 1) = 4 * cst dep := rfl
    have c1 : cst dep ≤ 80 := by
      have : dep = 0 ∨ dep = 1 := by omega
      rcases this with rfl | rfl <;> simp [cst]
    apply Ok_call (F := ⟨2, 5, b__law_comment⟩) rfl rfl (by decide)
    simp [b__law_comment, lst12]
    apply take_ok (D.app _) (by decide) (by decide) (by omega)
    intro n h1 hn D1 f1
    have g := f1.get (by have := D.lt; omega) get_end
    have f1 : Fr d h h1 := (Fr.app _ _ _).trans f1
    apply rngT (by omega)
    apply forR_ok (fun i ρ h' => ∃ (b : List Nat) (o : Option Val), ρ = [some (.loc d), some (.int (dep + 1 : Nat)), some (.loc h.length), some (.str (40 :: 42 :: b)), o] ∧ Bod b ∧ b.length ≤ (3 + cst dep) * i ∧ Dr h' d (B + 1 + (2 + cst dep) * i) ∧ Fr d h h' ∧ h'[h.length]? = some (.lst (PIEl.map .str)))
    · rintro i ρ h' hi ⟨b, o, rfl, hb, lb, D', f', g'⟩
      have i3 : i = 0 ∨ i = 1 ∨ i = 2 := by omega
      have e1 : (3 + cst dep) * (i + 1) = (3 + cst dep) * i + 3 + cst dep := by rw [Nat.mul_add]; omega
      have e2 : (2 + cst dep) * (i + 1) = (2 + cst dep) * i + 2 + cst dep := by rw [Nat.mul_add]; omega
      have e3 : (3 + cst dep) * i ≤ 2 * (3 + cst dep) := by rcases i3 with rfl | rfl | rfl <;> omega
      have e4 : (2 + cst dep) * i ≤ 2 * (2 + cst dep) := by rcases i3 with rfl | rfl | rfl <;> omega
      simp [w__law_comment_1]
      apply take_ok D' (by decide) (by decide) (by omega)
      intro j h2 hj D2 f2
      have g2 := f2.get (by have := D.lt; omega) g'
      obtain ⟨t, et, mt⟩ := atM (L := PIEl) (n := j) (by simp [PIEl]; omega)
      have pb := pie_bod mt
      simp [idx_loc g2, et]
      rw [bstr (by simp; omega) (by omega)]
      simp [show (0 : Int) < (dep : Int) + 1 by omega]
      apply take_ok D2 (by decide) (by decide) (by omega)
      intro m h3 hm D3 f3
      have g3 := f3.get (by have := D.lt; omega) g2
      simp
      constructor
      · intro _
        apply ih k h3 _ _ (by omega) D3 (by omega)
        intro c h4 cc lc D4 f4
        have g4 := f4.get (by have := D.lt; omega) g3
        rw [bstr (by simp; omega) (by omega)]
        simp
        exact ⟨(hb.app (pb.1.app cc.bod)), by omega, D4.mono (by omega), f'.trans (f2.trans (f3.trans f4)), by simpa using g4⟩
      · intro _
        exact ⟨hb.app pb.1, by omega, D3.mono (by omega), f'.trans (f2.trans f3), by simpa using g3⟩
    · rintro ρ h' ⟨b, o, rfl, hb, lb, D', f', g'⟩
      have i3 : n = 0 ∨ n = 1 ∨ n = 2 ∨ n = 3 := by omega
      have e3 : (3 + cst dep) * n ≤ 3 * (3 + cst dep) := by rcases i3 with rfl | rfl | rfl | rfl <;> omega
      have e4 : (2 + cst dep) * n ≤ 3 * (2 + cst dep) := by rcases i3 with rfl | rfl | rfl | rfl <;> omega
      simp [r__law_comment_2, lst3]
      apply take_ok (D'.app _) (by decide) (by decide) (by omega)
      intro j h2 hj D2 f2
      have g2 := f2.get (by have := D'.lt; omega) get_end
      have f2 : Fr d h' h2 := (Fr.app _ _ _).trans f2
      simp [idx_loc g2]
      have hj : j = 0 ∨ j = 1 ∨ j = 2 := by omega
      have fin : ∀ t : List Nat, (t = [] ∨ t = [32] ∨ t = [42]) → Ok (binV .Add (.str (40 :: 42 :: b)) (.str t) h2) fun a h => Ok (binV .Add a (.str [42, 41]) h) P := by
        intro t ht
        have lt : t.length ≤ 1 := by rcases ht with rfl | rfl | rfl <;> simp
        rw [bstr (by simp; omega) (by omega)]
        simp
        rw [bstr (by simp; omega) (by simp)]
        simp
        exact H _ _ (bod_com hb ht) (by simp; omega) (D2.mono (by omega)) (f'.trans f2)
      rcases hj with rfl | rfl | rfl
      · simpa using fin [] (by simp)
      · simpa using fin [32] (by simp)
      · simpa using fin [42] (by simp)
    · exact ⟨[], none, by simp, fun n r => rfl, by simp, D1, f1, g⟩
end Gu
end

section
set_option linter.all false
set_option Elab.async false
namespace Gu
open PySem L2
/-- spaces and comments that stand between tokens -/
def Gp (g : List Nat) : Prop := g.head? ∈ gapH ∧ g ≠ [] ∧ ∀ r w, Skip r w → Skip (g ++ r) w
theorem Gp.app {a b : List Nat} (x : Gp a) (y : Gp b) : Gp (a ++ b) := by
  refine ⟨?_, by simp [x.2.1], fun r w s => ?_⟩
  · match a, x with
    | c :: a, x => exact x.1
    | [], x => exact absurd rfl x.2.1
  · rw [List.append_assoc]; exact x.2.2 _ _ (y.2.2 _ _ s)
def GAPl : List (List Nat) := [[32], [10], [32, 32], [32, 10, 32], [40, 42, 32, 97, 32, 42, 41], [40, 42, 42, 41], [40, 42, 32, 40, 42, 32, 118, 97, 108, 32, 42, 41, 32, 101, 110, 100, 32, 42, 41], [40, 42, 32, 34, 32, 42, 41], [40, 42, 41, 42, 41], [40, 42, 32, 92, 32, 39, 32, 48, 49, 32, 42, 41]]
theorem gap_com {b : List Nat} (e : ∀ r, com 1 (b ++ r) = some r) : Gp (40 :: 42 :: b) :=
  ⟨by simp [gapH], by simp, fun r w s => .co (e r) s⟩
theorem gap_mem {g : List Nat} (m : g ∈ GAPl) : Gp g ∧ g.length ≤ 30 := by
  simp only [GAPl, List.mem_cons, List.not_mem_nil, or_false] at m
  rcases m with rfl | rfl | rfl | rfl | rfl | rfl | rfl | rfl | rfl | rfl
  · exact ⟨⟨by decide, by simp, fun r w s => .sp (by simp) s⟩, by simp⟩
  · exact ⟨⟨by decide, by simp, fun r w s => .sp (by simp) s⟩, by simp⟩
  · exact ⟨⟨by decide, by simp, fun r w s => .sp (by simp) (.sp (by simp) s)⟩, by simp⟩
  · exact ⟨⟨by decide, by simp, fun r w s => .sp (by simp) (.sp (by simp) (.sp (by simp) s))⟩, by simp⟩
  all_goals exact ⟨gap_com (fun r => by simp [com]), by simp⟩
theorem lst10 {a b c d e f g i j k : Val} {h : MH} : lstR [a, b, c, d, e, f, g, i, j, k] h = .ok (.loc h.length) (h ++ [.lst [a, b, c, d, e, f, g, i, j, k]]) := lstR_ok (by simp [sizeLine])
theorem gap_ok {h : MH} {d B k : Nat} {P : Val → MH → Prop} (D : Dr h d B) (hB : B + 400 < BIG)
    (H : ∀ (g : List Nat) (h' : MH), Gp g → g.length ≤ 400 → Dr h' d (B + 400) → Fr d h h' → P (.str g) h') :
    Ok (callK ft (k + 6) i__law_gap [.loc d] h) P := by
  apply Ok_call (F := ⟨1, 3, b__law_gap⟩) rfl rfl (by decide)
  simp [b__law_gap]
  apply take_ok D (by decide) (by decide) (by omega)
  intro n h1 hn D1 f1
  simp
  constructor
  · intro _
    refine comment_ok 2 k h1 _ _ (by omega) D1 (by simp [cst]; omega) ?_
    intro c h2 cc lc D2 f2
    simp [cst] at lc D2
    refine H c h2 ⟨?_, ?_, fun r w s => cc.skip s⟩ (by omega) (D2.mono (by omega)) (f1.trans f2)
    · obtain ⟨b, rfl, _⟩ := cc; simp [gapH]
    · obtain ⟨b, rfl, _⟩ := cc; simp
  · intro _
    simp [r__law_gap_2, lst10]
    apply take_ok (D1.app _) (by decide) (by decide) (by omega)
    intro i h2 hi D2 f2
    have g2 : h2[h1.length]? = some (.lst (GAPl.map .str)) := f2.get (by have := D1.lt; omega) get_end
    have f2 : Fr d h h2 := f1.trans ((Fr.app _ _ _).trans f2)
    obtain ⟨t, et, mt⟩ := atM (L := GAPl) (n := i) (by simp [GAPl]; omega)
    have gt := gap_mem mt
    simp [idx_loc g2, et]
    apply take_ok D2 (by decide) (by decide) (by omega)
    intro m h3 hm D3 f3
    have g3 := f3.get (by have := D1.lt; omega) g2
    simp
    constructor
    · intro _
      apply take_ok D3 (by decide) (by decide) (by omega)
      intro j h4 hj D4 f4
      have g4 := f4.get (by have := D1.lt; omega) g3
      obtain ⟨t2, et2, mt2⟩ := atM (L := GAPl) (n := j) (by simp [GAPl]; omega)
      have gt2 := gap_mem mt2
      simp [idx_loc g4, et2]
      rw [bstr (by omega) (by omega)]
      simp [r__law_gap_1]
      exact H _ h4 (gt.1.app gt2.1) (by simp; omega) (D4.mono (by omega)) (f2.trans (f3.trans f4))
    · intro _
      simp [r__law_gap_1]
      exact H _ h3 gt.1 (by omega) (D3.mono (by omega)) (f2.trans f3)
theorem tk_eq (x : Tk) (h : MH) : cmpR .NotEq x.v x.v h = .ok (.bl false) h := by
  simp [cmpR, cmpV, eqV?, Tk.v, Val.flat, Val.flats, Val.depth, Val.depths, Val.eqb, Val.eqbs]
theorem isi_l {n : Nat} {vs : List Val} {h : MH} (g : h[n]? = some (.lst vs)) : isiR .list (.loc n) h = .ok (.bl true) h := by
  simp [isiR, isiV, g]
theorem same_ok {h : MH} {a b k : Nat} {ts : List Tk} {P : Val → MH → Prop} (ga : h[a]? = some (.lst (ts.map Tk.v))) (gb : h[b]? = some (.lst (ts.map Tk.v))) (l : ts.length ≤ 100000) (H : P (.bl true) h) :
    Ok (callK ft (k + 1) i__law_same [.loc a, .loc b] h) P := by
  apply Ok_call (F := ⟨2, 4, b__law_same⟩) rfl rfl (by decide)
  simp [b__law_same, isi_l ga, bi_lenL ga, bi_lenL gb]
  simp [r__law_same_5, bi_lenL gb]
  rw [rng1R_ok (by omega)]
  simp
  apply forR_ok (fun i ρ h' => h' = h ∧ ∃ o1 o2, ρ = [some (.loc a), some (.loc b), o1, o2])
  · rintro i ρ h' hi ⟨rfl, o1, o2, rfl⟩
    have e : (ts.map Tk.v)[i]? = some (ts[i]).v := by simp [hi]
    have ea := atI_lt e
    have q := tk_eq ts[i] h'
    generalize ts[i] = x at ea q
    obtain ⟨kd, t, p⟩ := x
    simp only [Tk.v] at ea q
    simp [w__law_same_3, idx_loc ga, idx_loc gb, ea, isiR, isiV, r__law_same_2, r__law_same_1, q]
  · rintro ρ h' ⟨rfl, o1, o2, rfl⟩
    simp [r__law_same_4]
    exact H
  · exact ⟨rfl, none, none, rfl⟩
end Gu
end

section
set_option linter.all false
set_option Elab.async false
namespace Gu
open PySem L2
/-- behind the turn i of m -/
inductive LwI (m : Nat) (sv : Option Val) : Nat → Rho → MH → Prop
  | mid {i B : Nat} {x : List Nat} {u : Nat} {lv : Val} {A : Option Nat → Prop} {ts : List Tk} {o6 o7 : Option Val} {h : MH} : i ≤ m → Dr h 2 B → B ≤ 100 + 1000 * i → 2 < u → h[u]? = some (.lst (ts.map Tk.v)) → ts.length ≤ i → x.length ≤ 500 * i →
      Lf lv A → (∀ rest ts', A rest.head? → Lex (x.length + rest.length) rest ts' → Lex (x.length + rest.length) (x ++ rest) (ts ++ ts')) →
      LwI m sv i [sv, some (.loc 2), some (.int m), some (.str x), some (.loc u), some lv, o6, o7] h
  | fin {x : List Nat} {u : Nat} {o5 o6 o7 : Option Val} {ts : List Tk} {h : MH} : 2 < u → h[u]? = some (.lst (ts.map Tk.v)) → ts.length ≤ m + 1 → Lex x.length x ts → 
      LwI m sv (m + 1) [sv, some (.loc 2), some (.int m), some (.str x), some (.loc u), o5, o6, o7] h
theorem Lf.val {v : Val} {A : Option Nat → Prop} (l : Lf v A) : v = .non ∨ ∃ xs, v = .tup xs := by
  cases l with
  | non => exact .inl rfl
  | tok => exact .inr ⟨_, rfl⟩
theorem step_mid {m k i B : Nat} {sv : Option Val} {x : List Nat} {u : Nat} {lv : Val} {A : Option Nat → Prop} {ts : List Tk} {o7 : Option Val} {h : MH} (im : i < m) (mm : m < 41) (D : Dr h 2 B) (hB : B ≤ 100 + 1000 * i) (hu : 2 < u) (gu : h[u]? = some (.lst (ts.map Tk.v))) (lt : ts.length ≤ i) (lx : x.length ≤ 500 * i)
    (l : Lf lv A) (inv : ∀ rest ts', A rest.head? → Lex (x.length + rest.length) rest ts' → Lex (x.length + rest.length) (x ++ rest) (ts ++ ts'))
    {T : Val → MH → Prop} {W1 W2 : Rho → MH → Prop} :
    OkS (evS (callK ft (k + 7)) w_law_4 [sv, some (.loc 2), some (.int m), some (.str x), some (.loc u), some lv, some (.int i), o7] h) (LwI m sv (i + 1)) T W1 W2 := by
  have big : 100 + 1000 * i + 1000 < BIG := by simp [BIG]; omega
  simp [w_law_4, im]
  apply token_ok D (by omega)
  intro kd t s h1 tk D1 f1
  have gu1 := f1.get (by omega) gu
  have ls := tk.len
  -- what is done with or without a gap
  have R : ∀ (g : List Nat) (h' : MH), g.length ≤ 400 → A ((g ++ s).head?) → (∀ r w, Skip r w → Skip (g ++ r) w) → Dr h' 2 (B + 600) → h'[u]? = some (.lst (ts.map Tk.v)) →
      OkS (evS (callK ft (k + 7)) r_law_2 [sv, some (.loc 2), some (.int m), some (.str (x ++ g)), some (.loc u), some lv, some (.int i), some (.tup [.str kd, .str t, .str s])] h') (LwI m sv (i + 1)) T W1 W2 := by
    intro g h' lg hA hS D' gu'
    simp [r_law_2, Val.isNon, (mtT_loc gu').1, tk3]
    rw [mt_append gu' (by simp [sizeLine]; omega)]
    simp
    rw [bstr (by simp; omega) (by omega)]
    simp [r_law_1]
    have ev : (Val.tup [.str kd, .str t, .int ((x.length : Int) + (g.length : Int))]) = Tk.v ⟨kd, t, x.length + g.length⟩ := by simp [Tk.v]
    have hl : u < h'.length := by
      rcases Nat.lt_or_ge u h'.length with l | l
      · exact l
      · rw [List.getElem?_eq_none l] at gu'; cases gu'
    have g2 : (h'.set u (.lst (ts.map Tk.v ++ [.tup [.str kd, .str t, .int ((x.length : Int) + (g.length : Int))]])))[u]? = some (.lst ((ts ++ [(⟨kd, t, x.length + g.length⟩ : Tk)]).map Tk.v)) := by
      rw [List.getElem?_set_self hl, ev]; simp
    refine .mid (B := B + 600) (by omega) (D'.fr hu (Fr.set _ _ _)) (by omega) hu g2 (by simp; omega) (by simp; omega) (.tok tk) ?_
    intro rest ts' ha hlex
    have e := inv (g ++ (s ++ rest)) (⟨kd, t, x.length + g.length⟩ :: ts') (by
      have : (g ++ (s ++ rest)).head? = (g ++ s).head? := by
        have := tk.ne
        cases g <;> cases s <;> simp_all
      rw [this]; exact hA) (by
      have e2 : x.length + (g ++ (s ++ rest)).length = (x ++ (g ++ s)).length + rest.length := by simp; omega
      rw [e2]
      have q := Lex.tok (e := (x ++ (g ++ s)).length + rest.length) (hS _ _ (tk.skip ha)) (by simp [tk.ne]) (tk.rd ha) (by have := List.length_pos_iff.2 tk.ne; simp; omega) hlex
      have e3 : (x ++ (g ++ s)).length + rest.length - (s ++ rest).length = x.length + g.length := by simp; omega
      rw [e3] at q
      exact q)
    have e2 : x.length + (g ++ (s ++ rest)).length = (x ++ (g ++ s)).length + rest.length := by simp; omega
    rw [e2] at e
    simpa using e
  simp [r_law_3]
  have hasG : ∀ (h2 : MH) (B2 : Nat), Dr h2 2 B2 → B2 ≤ B + 100 → h2[u]? = some (.lst (ts.map Tk.v)) → Ok (callK ft (k + 7) i__law_gap [.loc 2] h2) fun a h => Ok (binV .Add (.str x) a h) fun a h =>
      OkS (evS (callK ft (k + 7)) r_law_2 [sv, some (.loc 2), some (.int m), some a, some (.loc u), some lv, some (.int i), some (.tup [.str kd, .str t, .str s])] h) (LwI m sv (i + 1)) T W1 W2 := by
    intro h2 B2 D2 hB2 gu2
    apply gap_ok D2 (by omega)
    intro g h3 hg lg D3 f3
    rw [bstr (by omega) (by omega)]
    simp
    refine R g h3 lg ?_ hg.2.2 (D3.mono (by omega)) (f3.get (by omega) gu2)
    match g, hg with
    | c :: g, hg => exact l.gap hg.1
    | [], hg => exact absurd rfl hg.2.1
  apply apart_ok l tk
  intro b hb
  cases b with
  | false => simp; exact hasG h1 _ D1 (by omega) gu1
  | true =>
    simp
    apply take_ok D1 (by decide) (by decide) (by omega)
    intro j h2 hj D2 f2
    have gu2 := f2.get (by omega) gu1
    simp
    constructor
    · intro _; exact hasG h2 _ D2 (by omega) gu2
    · intro _
      have := R [] h2 (by simp) (by simpa using hb rfl) (fun r w s => s) (D2.mono (by omega)) gu2
      simpa using this
end Gu
end

section
set_option linter.all false
set_option Elab.async false
namespace Gu
open PySem L2
theorem step_last {m k B : Nat} {sv : Option Val} {x : List Nat} {u : Nat} {lv : Val} {A : Option Nat → Prop} {ts : List Tk} {o7 : Option Val} {h : MH} (mm : m < 41) (D : Dr h 2 B) (hB : B ≤ 100 + 1000 * m) (hu : 2 < u) (gu : h[u]? = some (.lst (ts.map Tk.v))) (lt : ts.length ≤ m) (lx : x.length ≤ 500 * m)
    (l : Lf lv A) (inv : ∀ rest ts', A rest.head? → Lex (x.length + rest.length) rest ts' → Lex (x.length + rest.length) (x ++ rest) (ts ++ ts'))
    {T : Val → MH → Prop} {W1 W2 : Rho → MH → Prop} :
    OkS (evS (callK ft (k + 7)) w_law_4 [sv, some (.loc 2), some (.int m), some (.str x), some (.loc u), some lv, some (.int m), o7] h) (LwI m sv (m + 1)) T W1 W2 := by
  have big : 100 + 1000 * m + 1000 < BIG := by simp [BIG]; omega
  have R : ∀ (g : List Nat) (h' : MH), A g.head? → Skip g [] → h'[u]? = some (.lst (ts.map Tk.v)) →
      OkS (evS (callK ft (k + 7)) r_law_2 [sv, some (.loc 2), some (.int m), some (.str (x ++ g)), some (.loc u), some lv, some (.int m), some .non] h') (LwI m sv (m + 1)) T W1 W2 := by
    intro g h' hA hS gu'
    simp [r_law_2, Val.isNon, r_law_1]
    refine .fin hu gu' (by omega) ?_
    have := inv g [] hA (.done hS)
    simpa using this
  simp [w_law_4, r_law_3]
  apply apart_non _ l.val
  simp
  apply take_ok D (by decide) (by decide) (by omega)
  intro j h2 hj D2 f2
  have gu2 := f2.get (by omega) gu
  simp
  constructor
  · intro _
    apply gap_ok D2 (by omega)
    intro g h3 hg lg D3 f3
    rw [bstr (by omega) (by omega)]
    simp
    refine R g h3 ?_ ?_ (f3.get (by omega) gu2)
    · match g, hg with
      | c :: g, hg => exact l.gap hg.1
      | [], hg => exact absurd rfl hg.2.1
    · have := hg.2.2 [] [] .nil
      simpa using this
  · intro _
    have := R [] h2 (l.gap (by simp [gapH])) .nil gu2
    simpa using this
theorem law_body {ns : List Int} (hl : ns.length ≤ 63) (k : Nat) : Ok (callK ft (k + 8) i_law [.fro (ns.map Val.int)] []) (fun v _ => v = .bl true) := by
  apply Ok_call (F := ⟨1, 8, b_law⟩) rfl rfl (by decide)
  simp [b_law]
  apply start_ok hl
  intro h D hlen
  have R : ∀ (m B : Nat) (h' : MH), m < 41 → B ≤ 2 → Dr h' 2 B → 2 < h'.length → OkS (evS (callK ft (k + 7)) r_law_7 [some (.fro (ns.map Val.int)), some (.loc 2), some (.int m), none, none, none, none, none] h') (fun _ _ => False) (fun v _ => v = .bl true) nw0 nw0 := by
    intro m B h' hm hB D hlen
    simp [r_law_7, lstR_ok (xs := []) (by simp [sizeLine])]
    have := rngOk (n := m + 1) (h := h' ++ [.lst []]) (by omega)
    simp at this
    rw [this]
    simp
    apply forR_ok (LwI m (some (.fro (ns.map Val.int))))
    · intro i ρ h2 hi inv
      cases inv with
      | @mid i B x u lv A ts o6 o7 h2 im D hB hu gu lt lx l inv =>
        simp
        rcases Nat.lt_or_ge i m with c | c
        · exact step_mid c hm D hB hu gu lt lx l inv
        · have : i = m := by omega
          subst this
          exact step_last hm D hB hu gu lt lx l inv
      | fin => omega
    · intro ρ h2 inv
      generalize hj : m + 1 = j at inv
      cases inv with
      | mid im => omega
      | @fin x u o5 o6 o7 ts h2 hu gu lt lx =>
        simp [r_law_6]
        intro lx4
        simp [r_law_5]
        refine read_ok (k := k + 2) (by omega) lx ?_
        intro h3 g3 f3
        have gu3 := f3.get (by
          rcases Nat.lt_or_ge u h2.length with l | l
          · omega
          · rw [List.getElem?_eq_none l] at gu; cases gu) gu
        exact same_ok g3 gu3 (by omega) rfl
    · refine .mid (x := []) (ts := []) (A := fun _ => True) (by omega) (D.app [.lst []]) (by omega) (by omega) (by simp) (by simp) (by simp) .non ?_
      intro rest ts' _ h
      simpa using h
  apply take_ok D (by decide) (by decide) (by simp [BIG])
  intro m h1 hm D1 f1
  simp
  constructor
  · intro _
    apply take_ok D1 (by decide) (by decide) (by simp [BIG])
    intro m h2 hm D2 f2
    exact (R m _ h2 (by omega) (by omega) D2 (by have := D2.lt; omega)).mono (fun _ _ x => x.elim) (fun _ _ x => x) (fun _ _ x => x) (fun _ _ x => x)
  · intro _
    exact (R m _ h1 (by omega) (by omega) D1 (by have := D1.lt; omega)).mono (fun _ _ x => x.elim) (fun _ _ x => x) (fun _ _ x => x) (fun _ _ x => x)
theorem the_law (ns : List Int) (hl : ns.length ≤ 63) : ∃ h', callK ft 230 i_law [.fro (ns.map Val.int)] [] = .ok (.bl true) h' := by
  obtain ⟨v, h, e, rfl⟩ := law_body hl 222
  exact ⟨h, e⟩
end Gu
end

section
set_option Elab.async false
set_option linter.all false
set_option maxRecDepth 100000
set_option maxHeartbeats 4000000
namespace Gu
open PySem PySem.Spec PyProof.Rows L2
def loose : List PySem.Str := (["GuanacoError", "LimitError", "TokenError", "WORDS", "LONG_SIGNS", "SHORT_SIGNS", "LOW", "HIGH", "DIGITS", "FOLLOWING", "read_tokens", "skip_space", "skip_comment", "read_token", "end_of_word", "read_name", "read_number", "read_variable", "read_string", "escaped", "_law_start", "_law_fill", "_law_take", "_law_words", "_law_identifier", "_law_digits", "_law_string", "_law_quoted", "_law_token", "_law_comment"] : List PySem.Str) ++ (["_law_gap", "_law_apart", "_law_same"] : List PySem.Str)
abbrev Rw : PySem.W.OpenRow := PySem.W.OpenLaw.row PySem.Challenge.rw_guanaco_k01_tokens_of_a_text
abbrev hkk : PySem.W.Hook := He.hookX 5 (faOf G ents) (ents.map Ent.d) [] [] (exOf G)
def obb (s : PySem.W.SharedT) : He.AlX := He.obsX 5 (faOf G ents) (ents.map Ent.d) [] [] (exOf G) (HandSHeadRun.getT s)
theorem obb_eq (s : PySem.W.SharedT) : obb s = hkk.obs s.abs := He.obsX_eq (HandSHeadRun.getT_eq s)
theorem runn (w : World) : HandSHeadRun.RunEq Rw (PySem.W.view Rw.prog [36]) hkk obb 4000 loose w := by
  intro os
  kernel_rfl
theorem law_true (ns : List Int) (hl : ns.length ≤ 63) : ∃ h', callK (ents.map (·.F)) 230 23 [.fro (ns.map Val.int)] [] = .ok (.bl true) h' := the_law ns hl
end Gu
open PySem PySem.W PySem.Calls PyProof.Rows
theorem PySem.Challenge.cw_guanaco_k01_tokens_of_a_text_holds : PySem.Challenge.rw_guanaco_k01_tokens_of_a_text.Holds := by
  w_on; o_law
  refine HandSHeadRun.head_any (r := OpenLaw.row PySem.Challenge.rw_guanaco_k01_tokens_of_a_text) (q := view (OpenLaw.row PySem.Challenge.rw_guanaco_k01_tokens_of_a_text).prog [36]) (H := Gu.hkk) (ob := Gu.obb) (M := 4000) (loose := Gu.loose) (d := HandSHeadRun.topDef (OpenLaw.row PySem.Challenge.rw_guanaco_k01_tokens_of_a_text).prog 36) (kwd := []) Gu.obb_eq
    (by kernel_rfl) (fun s => by kernel_rfl) Gu.runn (by kernel_rfl) (by kernel_rfl) (by kernel_rfl) (by rfl) (by first | assumption | decide +kernel) (by decide +kernel) ⟨rfl, rfl, rfl, rfl, rfl, by decide +kernel⟩ ?hw ?hc
  case hw => w_witness2
  case hc =>
    refine L2.walk_ofE (l := PySem.Challenge.rw_guanaco_k01_tokens_of_a_text) (n := 63) (k := 230) (x := "script") (CX := L2.CX0) rfl (by decide) (by kernel_rfl) ⟨rfl, by decide, by decide⟩ ?F (fun _ _ _ _ z => z)
    intro w mg fa h Y N hmg0
    obtain ⟨K, KX, c⟩ := Y
    have hmg : mg ("law" : PySem.Str) = some (.ref fa) := by
      have e : (HandSHeadRun.topDef (OpenLaw.row PySem.Challenge.rw_guanaco_k01_tokens_of_a_text).prog 36).name = ("law" : PySem.Str) := by kernel_rfl
      rw [← e]
      exact hmg0
    have T := Gu.told_of (mg := mg) (G := Gu.G) (ents := Gu.ents) (by decide +kernel) c KX N
    have hlen : (23 : Nat) < Gu.ents.length := by decide
    obtain ⟨fa0, fd, F0, hm0⟩ := T.fn Gu.e_law (by unfold Gu.ents; simp)
    have e0 : fa0 = fa := by
      have := hm0.symm.trans hmg
      cases this
      rfl
    subst e0
    refine ⟨K, fd, Gu.spG K (Gu.callK (Gu.ents.map (·.F)) 230) 23 1, KX, fun s v => L2.FunD.bindsA F0 Gu.e_law.bind s [v] rfl, fun H a ns hl ho hS => Gu.law_sp (k := 0) Gu.law_true H a ns hl ho hS, fun base _ _ => ?_⟩
    exact Gu.ent_ok T 230 23 Gu.e_law fa0 fd rfl F0 hmg
end
