import PyProof.Rows.All
import Wide.All
import OpenK.AllK
import Wide.FinOn
import PySem.Challenge.RW_quickharm_k06_cache_tables
import HandS.ForMost
import HandS.Deep
import HandS.TupAny
import KE.KDictKeyed
import KE.KDictDisplayH
import HandS.Codes
import HandS.TupLe
import HandS.Conv
import HandS.IsInst
import HandS.RaiseOp
import HandS.CallSlots
import HandS.ExcOwn
import HandS.Head2
import HandS.HeadEnd
import HandS.HeadHook2
import HandS.HeadWalk
set_option Elab.async false
set_option linter.all false
set_option maxRecDepth 100000
/-! Mini: a small interpreter of the programs' Python, in plain Lean: values, heap, expressions, statements. -/
namespace Mi
open PySem

inductive Ty where
  | noneT | bool | int | str | list | tuple | dict
  deriving DecidableEq
def Ty.nm : Ty → String
  | .noneT => "NoneType" | .bool => "bool" | .int => "int" | .str => "str" | .list => "list" | .tuple => "tuple" | .dict => "dict"

inductive MV where
  | non | bl (b : Bool) | int (i : Int) | str (x : Str) | tup (xs : List MV) | ref (n : Nat) | cls (c : Nat) | ty (t : Ty)
instance : Inhabited MV := ⟨.non⟩

inductive MO where
  | lst (xs : List MV)
  | rol (xs : List MV)
  | dic (kvs : List (MV × MV))
  | ins (c : Nat) (fs : List (Str × MV))

abbrev MH := List MO
abbrev Env := List (Option MV)

inductive Out (α : Type) where
  | ok (a : α) (h : MH)
  | exc (c : Nat) (fs : List (Str × MV)) (h : MH)
  | bad
@[inline] def Out.bind {α β : Type} (o : Out α) (f : α → MH → Out β) : Out β := match o with
  | .ok a h => f a h
  | .exc c fs h => .exc c fs h
  | .bad => .bad
def Out.of {α : Type} (h : MH) : Option α → Out α
  | some a => .ok a h
  | none => .bad

/-! ### values -/
mutual
def MV.beq : MV → MV → Bool
  | .non, .non => true
  | .bl a, .bl b => a == b
  | .int a, .int b => a == b
  | .str a, .str b => a == b
  | .tup a, .tup b => MV.beqs a b
  | .ref a, .ref b => a == b
  | .cls a, .cls b => a == b
  | .ty a, .ty b => a == b
  | _, _ => false
def MV.beqs : List MV → List MV → Bool
  | [], [] => true
  | x :: xs, y :: ys => MV.beq x y && MV.beqs xs ys
  | _, _ => false
end

def mapO {α β : Type} (f : α → Option β) : List α → Option (List β)
  | [] => some []
  | x :: xs => match f x with
    | some y => match mapO f xs with
      | some ys => some (y :: ys)
      | none => none
    | none => none

/-- a value as data, read off the heap -/
def toD (h : MH) : Nat → MV → Option PyData
  | _, .non => some .none
  | _, .bl b => some (.bool b)
  | _, .int i => some (.int i)
  | _, .str x => some (.str x)
  | n + 1, .tup xs => (mapO (toD h n) xs).map .tuple
  | n + 1, .ref r => match h[r]? with
    | some (.lst xs) => (mapO (toD h n) xs).map .list
    | some (.rol xs) => (mapO (toD h n) xs).map .list
    | _ => none
  | _, _ => none
def eqM (h : MH) (v w : MV) : Option Bool := match toD h 64 v with
  | some d => match toD h 64 w with
    | some e => if SeqAt.shaped d && SeqAt.shaped e then some (PyData.eqv d e) else none
    | none => none
  | none => none

mutual
/-- a tuple of ints, texts and None, as a key -/
def toK : MV → Option NestedKey
  | .non => some .none
  | .int i => some (.num i)
  | .str x => some (.text x)
  | .tup xs => (toKs xs).map .tup
  | _ => none
def toKs : List MV → Option (List NestedKey)
  | [] => some []
  | x :: xs => match toK x with
    | some k => (toKs xs).map (k :: ·)
    | none => none
end
/-- the kind of a key: 1 an int or a text, 2 a tuple of such (nested), 0 none of these -/
def kk : MV → Nat
  | .int _ => 1
  | .str _ => 1
  | .tup xs => match toK (.tup xs) with
    | some k => if k.depth ≤ 8 then 2 else 0
    | none => 0
  | _ => 0
def dk : List (MV × MV) → Nat
  | [] => 0
  | p :: _ => kk p.1
/-- may this key be asked of this dict -/
def kfit (kvs : List (MV × MV)) (k : MV) : Bool := kk k != 0 && (dk kvs == 0 || dk kvs == kk k)
def dget (kvs : List (MV × MV)) (x : MV) : Option MV := (kvs.find? fun p => MV.beq p.1 x).map (·.2)
def dput (kvs : List (MV × MV)) (x v : MV) : List (MV × MV) := if (kvs.any fun p => MV.beq p.1 x) then kvs.map fun p => if MV.beq p.1 x then (p.1, v) else p else kvs ++ [(x, v)]

def fget (fs : List (Str × MV)) (f : Str) : Option MV := fs.lookup f
def fput : List (Str × MV) → Str → MV → List (Str × MV)
  | [], f, v => [(f, v)]
  | (g, x) :: r, f, v => if g = f then (g, v) :: r else (g, x) :: fput r f v

abbrev line : Nat := 16777216
def truth (h : MH) : MV → Option Bool
  | .non => some false
  | .bl b => some b
  | .int i => some (i != 0)
  | .str x => if x.length ≤ line then some ((x.length : Int) != 0) else none
  | .tup xs => some (!xs.isEmpty)
  | .ref r => match h[r]? with
    | some (.lst xs) => some (!xs.isEmpty)
    | some (.rol xs) => some (!xs.isEmpty)
    | _ => none
  | _ => none
def lenM (h : MH) : MV → Option Nat
  | .str x => if x.length ≤ line then some x.length else none
  | .tup xs => some xs.length
  | .ref r => match h[r]? with
    | some (.lst xs) => some xs.length
    | some (.rol xs) => some xs.length
    | some (.dic kvs) => if dk kvs == 2 then none else some kvs.length
    | _ => none
  | _ => none
/-- the items of a list or a tuple -/
def seqM (h : MH) : MV → Option (List MV)
  | .tup xs => some xs
  | .ref r => match h[r]? with
    | some (.lst xs) => some xs
    | some (.rol xs) => some xs
    | _ => none
  | _ => none
def alloc (o : MO) (h : MH) : Out MV := .ok (.ref h.length) (h ++ [o])

/-! ### operators -/
def cmulB (i j : Int) : Bool := (decide (-(2 ^ 64) < i) && decide (i < 2 ^ 64)) || (decide (-(2 ^ 64) < j) && decide (j < 2 ^ 64))
def binM (op : Operator) (v w : MV) (h : MH) : Out MV := match op with
  | .Add => match v, w with
    | .int i, .int j => .ok (.int (i + j)) h
    | .str x, .str y => if x.length + y.length ≤ line then .ok (.str (x ++ y)) h else .bad
    | .tup xs, .tup ys => if xs.length + ys.length ≤ line then .ok (.tup (xs ++ ys)) h else .bad
    | .ref a, .ref b => match h[a]?, h[b]? with
      | some (.lst xs), some (.lst ys) => if xs.length + ys.length ≤ line then alloc (.lst (xs ++ ys)) h else .bad
      | _, _ => .bad
    | _, _ => .bad
  | .Sub => match v, w with
    | .int i, .int j => .ok (.int (i - j)) h
    | _, _ => .bad
  | .Mult => match v, w with
    | .int i, .int j => if cmulB i j then .ok (.int (i * j)) h else .bad
    | .ref a, .int k => match h[a]? with
      | some (.lst xs) => if -(2 ^ 63) ≤ k ∧ k < 2 ^ 63 ∧ xs.length * k.toNat ≤ line then alloc (.lst (List.replicate k.toNat xs).flatten) h else .bad
      | _ => .bad
    | _, _ => .bad
  | .FloorDiv => match v, w with
    | .int i, .int j => if j ≠ 0 ∧ j.natAbs < 1073741824 then .ok (.int (i.fdiv j)) h else .bad
    | _, _ => .bad
  | .Mod => match v, w with
    | .int i, .int j => if j ≠ 0 then .ok (.int (i.fmod j)) h else .bad
    | _, _ => .bad
  | .Pow => match v, w with
    | .int i, .int j => if 0 ≤ j ∧ j ≤ 1000000 ∧ i.natAbs < 2 ^ 64 then .ok (.int (i ^ j.toNat)) h else .bad
    | _, _ => .bad
  | _ => .bad
def inM (h : MH) (v w : MV) : Option Bool := match w with
  | .str y => match v with
    | .str x => some (!(Builtin.Str.occurrences y x 0 y.length 1).isEmpty)
    | _ => none
  | .tup _ => match toD h 64 v, toD h 64 w with
    | some d, some (.tuple ds) => if SeqAt.shaped d && SeqAt.shaped (.tuple ds) then some (ds.any fun z => PyData.eqv z d) else none
    | _, _ => none
  | .ref r => match h[r]? with
    | some (.dic kvs) => if kfit kvs v then some (dget kvs v).isSome else none
    | some (.lst _) => match toD h 64 v, toD h 64 w with
      | some d, some (.list ds) => if SeqAt.shaped d && SeqAt.shaped (.list ds) then some (ds.any fun z => PyData.eqv z d) else none
      | _, _ => none
    | _ => none
  | _ => none
def cmpM (op : CmpOp) (v w : MV) (h : MH) : Option Bool := match op with
  | .Eq => eqM h v w
  | .NotEq => (eqM h v w).map (!·)
  | .Lt => match v, w with
    | .int i, .int j => some (decide (i < j))
    | _, _ => none
  | .LtE => match v, w with
    | .int i, .int j => some (decide (i ≤ j))
    | _, _ => none
  | .Gt => match v, w with
    | .int i, .int j => some (decide (j < i))
    | _, _ => none
  | .GtE => match v, w with
    | .int i, .int j => some (decide (j ≤ i))
    | _, _ => none
  | .In => inM h v w
  | .NotIn => (inM h v w).map (!·)
  | .Is => match w with
    | .non => match v with
      | .non => some true
      | _ => some false
    | .bl b => match v with
      | .bl a => some (decide (a = b))
      | _ => none
    | _ => none
  | .IsNot => match w with
    | .non => match v with
      | .non => some false
      | _ => some true
    | .bl b => match v with
      | .bl a => some (!decide (a = b))
      | _ => none
    | _ => none
def subM (v w : MV) (h : MH) : Option MV := match v with
  | .tup xs => match w with
    | .int i => L2.atI xs i
    | _ => none
  | .str z => match w with
    | .int i => if z.length ≤ line then (L2.atI z.cps.toList i).map fun c => .str ⟨#[c]⟩ else none
    | _ => none
  | .ref r => match h[r]? with
    | some (.lst xs) => match w with
      | .int i => L2.atI xs i
      | _ => none
    | some (.rol xs) => match w with
      | .int i => L2.atI xs i
      | _ => none
    | some (.dic kvs) => if kfit kvs w then dget kvs w else none
    | _ => none
  | _ => none
def cutM (xs : List MV) (lo hi : Option Int) : List MV := (xs.drop (HT.sIx xs.length 0 lo)).take (HT.sIx xs.length xs.length hi - HT.sIx xs.length 0 lo)
def slcM (v : MV) (lo hi : Option Int) (h : MH) : Out MV := match v with
  | .tup xs => .ok (.tup (cutM xs lo hi)) h
  | .str z => if z.length ≤ line then .ok (.str (L2.cutS z lo hi)) h else .bad
  | .ref r => match h[r]? with
    | some (.lst xs) => alloc (.lst (cutM xs lo hi)) h
    | _ => .bad
  | _ => .bad
/-- o[i] = v -/
def setM (o i v : MV) (h : MH) : Option MH := match o with
  | .ref r => match h[r]? with
    | some (.lst xs) => match i with
      | .int k => match L2.ixN xs.length k with
        | some j => some (h.set r (.lst (xs.set j v)))
        | none => none
      | _ => none
    | some (.dic kvs) => if kfit kvs i && decide (kvs.length < 1000000) then some (h.set r (.dic (dput kvs i v))) else none
    | _ => none
  | _ => none

/-! ### builtins -/
inductive Blt where
  | len | int | isi | tuple | list | sum | all | any | max | min | abs
  deriving DecidableEq
def Blt.nm : Blt → Str
  | .len => "len" | .int => "int" | .isi => "isinstance" | .tuple => "tuple" | .list => "list" | .sum => "sum" | .all => "all" | .any => "any" | .max => "max" | .min => "min" | .abs => "abs"
/-- the builtin type of a value, or its class -/
def tyM (h : MH) : MV → Option (Ty ⊕ Nat)
  | .non => some (.inl .noneT)
  | .bl _ => some (.inl .bool)
  | .int _ => some (.inl .int)
  | .str _ => some (.inl .str)
  | .tup _ => some (.inl .tuple)
  | .ref r => match h[r]? with
    | some (.lst _) => some (.inl .list)
    | some (.rol _) => some (.inl .list)
    | some (.dic _) => some (.inl .dict)
    | some (.ins c _) => some (.inr c)
    | _ => none
  | _ => none
def tyLe (a b : Ty) : Bool := a == b || (a == .bool && b == .int)
def intsM : List MV → Option (List Int)
  | [] => some []
  | .int i :: r => (intsM r).map (i :: ·)
  | _ => none
def bolsM : List MV → Option (List Bool)
  | [] => some []
  | .bl b :: r => (bolsM r).map (b :: ·)
  | _ => none

structure Member where
  name : Str
  fn : Nat
  prop : Bool
structure Cls where
  name : Str
  init : Option Nat
  mems : List Member
  ups : List Nat
structure Cfg where
  call : Nat → List MV → MH → Out MV
  cls : List Cls
  fuel : Nat

def isiM (C : Cfg) (h : MH) (v c : MV) : Option Bool := match tyM h v with
  | some (.inl t) => match c with
    | .ty s => some (tyLe t s)
    | .cls j => if j < C.cls.length then some false else none
    | _ => none
  | some (.inr k) => match c with
    | .ty _ => some false
    | .cls j => match C.cls[k]? with
      | some K => some (k == j || K.ups.contains j)
      | none => none
    | _ => none
  | none => none
def bltM (C : Cfg) (b : Blt) (vs : List MV) (h : MH) : Out MV := match b with
  | .len => match vs with
    | [v] => match lenM h v with
      | some n => .ok (.int n) h
      | none => .bad
    | _ => .bad
  | .int => match vs with
    | [.int i] => .ok (.int i) h
    | [.bl k] => .ok (.int (if k then 1 else 0)) h
    | _ => .bad
  | .isi => match vs with
    | [v, c] => match isiM C h v c with
      | some r => .ok (.bl r) h
      | none => .bad
    | _ => .bad
  | .tuple => match vs with
    | [v] => match seqM h v with
      | some xs => .ok (.tup xs) h
      | none => .bad
    | _ => .bad
  | .list => match vs with
    | [v] => match seqM h v with
      | some xs => alloc (.lst xs) h
      | none => .bad
    | _ => .bad
  | .sum => match vs with
    | [.ref r] => match h[r]? with
      | some (.lst xs) => match intsM xs with
        | some ns => .ok (.int ns.sum) h
        | none => .bad
      | _ => .bad
    | _ => .bad
  | .all => match vs with
    | [.ref r] => match h[r]? with
      | some (.lst xs) => match bolsM xs with
        | some bs => .ok (.bl (bs.all id)) h
        | none => .bad
      | _ => .bad
    | _ => .bad
  | .any => match vs with
    | [.ref r] => match h[r]? with
      | some (.lst xs) => match bolsM xs with
        | some bs => .ok (.bl (bs.any id)) h
        | none => .bad
      | _ => .bad
    | _ => .bad
  | .max => match vs with
    | [.int i, .int j] => .ok (.int (if j > i then j else i)) h
    | _ => .bad
  | .min => match vs with
    | [.int i, .int j] => .ok (.int (if j < i then j else i)) h
    | _ => .bad
  | .abs => match vs with
    | [.int i] => .ok (.int (if i < 0 then -i else i)) h
    | _ => .bad

/-! ### methods of built-in types -/
inductive Mth where
  | append | pop
  deriving DecidableEq
def Mth.nm : Mth → Str
  | .append => "append" | .pop => "pop"
/-- the receiver is of the method's type -/
def mthR (m : Mth) (v : MV) (h : MH) : Bool := match v with
  | .ref r => match h[r]? with
    | some (.lst _) => true
    | _ => false
  | _ => false
def mthM (m : Mth) (v : MV) (vs : List MV) (h : MH) : Out MV := match m with
  | .append => match v, vs with
    | .ref r, [x] => match h[r]? with
      | some (.lst xs) => if xs.length < line then .ok .non (h.set r (.lst (xs ++ [x]))) else .bad
      | _ => .bad
    | _, _ => .bad
  | .pop => match v, vs with
    | .ref r, [.int i] => match h[r]? with
      | some (.lst xs) => if -(2 ^ 63) ≤ i ∧ i < 2 ^ 63 then
          match L2.ixN xs.length i with
          | some k => match xs[k]? with
            | some y => .ok y (h.set r (.lst (xs.eraseIdx k)))
            | none => .bad
          | none => .bad
        else .bad
      | _ => .bad
    | _, _ => .bad

/-! ### what is walked -/
inductive It where
  | lst (r : Nat)
  | tup (xs : List MV)
  | rng (lo : Int) (n : Nat)
  | str (x : Str)
/-- the i-th item: none where it is not told, some none at the end -/
def It.at_ : It → Nat → MH → Option (Option MV)
  | .lst r, i, h => match h[r]? with
    | some (.lst xs) => some xs[i]?
    | some (.rol xs) => some xs[i]?
    | _ => none
  | .tup xs, i, _ => some xs[i]?
  | .rng lo n, i, _ => some (if i < n then some (.int (lo + i)) else none)
  | .str x, i, _ => some (x.cps.toList[i]?.map fun c => .str ⟨#[c]⟩)
def itV (v : MV) (h : MH) : Option It := match v with
  | .tup xs => some (.tup xs)
  | .ref r => match h[r]? with
    | some (.lst _) => some (.lst r)
    | some (.rol _) => some (.lst r)
    | _ => none
  | .str x => some (.str x)
  | _ => none
def rngM : List MV → Option It
  | [.int j] => if -(2 ^ 62) ≤ j ∧ j < 2 ^ 62 then some (.rng 0 j.toNat) else none
  | [.int i, .int j] => if -(2 ^ 62) ≤ i ∧ i < 2 ^ 62 ∧ -(2 ^ 62) ≤ j ∧ j < 2 ^ 62 then some (.rng i (j - i).toNat) else none
  | _ => none

/-! ### the text -/
mutual
inductive ME where
  | var (i : Nat)
  | non | bl (b : Bool) | int (i : Int) | str (x : Str)
  | glb (x : Str) (v : MV)
  | bin (op : Operator) (a b : ME)
  | neg (a : ME)
  | cmp (op : CmpOp) (a b : ME)
  | chn (o1 o2 : CmpOp) (a b c : ME)
  | bop (op : BoolOp) (es : MEs)
  | not (a : ME)
  | ifx (c a b : ME)
  | tup (es : MEs)
  | lst (es : MEs)
  | dic0
  | dic1 (k v : ME)
  | sub (a i : ME)
  | slc (a : ME) (lo hi : MOp)
  | call (x : Str) (f : Nat) (es : MEs)
  | blt (b : Blt) (es : MEs)
  | mth (e : ME) (m : Mth) (es : MEs)
  | lc (e : ME) (t : MT) (it : MI) (ifs : MEs) (own : List (Str × Nat))
inductive MOp where
  | none
  | some (e : ME)
inductive MEs where
  | nil
  | cons (e : ME) (es : MEs)
inductive MI where
  | val (e : ME)
  | rng (es : MEs)
inductive MT where
  | name (i : Nat)
  | tup (ts : MTs)
  | sub (a i : ME)
inductive MTs where
  | nil
  | cons (t : MT) (ts : MTs)
end
mutual
inductive MS where
  | exp (e : ME)
  | doc
  | ret (e : ME)
  | retN
  | pass | brk | cnt
  | asg (t : MT) (e : ME)
  | aug (i : Nat) (op : Operator) (e : ME)
  | ifs (c : ME) (a b : MSs)
  | whl (c : ME) (b : MSs)
  | for_ (t : MT) (it : MI) (b : MSs)
inductive MSs where
  | nil
  | cons (s : MS) (ss : MSs)
end
inductive SOut where
  | next (ρ : Env) (h : MH)
  | ret (v : MV) (h : MH)
  | brk (ρ : Env) (h : MH)
  | cnt (ρ : Env) (h : MH)
  | exc (c : Nat) (fs : List (Str × MV)) (ρ : Env) (h : MH)
  | bad

/-! ### running -/
/-- a list comprehension's loop: what a turn makes (none: left out) -/
def lcM (turn : Nat → MH → Out (Option (Option MV))) : Nat → Nat → List MV → MH → Out (List MV)
  | 0, _, _, _ => .bad
  | n + 1, i, acc, h => match turn i h with
    | .ok none h1 => .ok acc h1
    | .ok (some none) h1 => lcM turn n (i + 1) acc h1
    | .ok (some (some v)) h1 => if acc.length < line then lcM turn n (i + 1) (acc ++ [v]) h1 else .bad
    | _ => .bad
def wipe (ρ : Env) : List Nat → Env
  | [] => ρ
  | v :: vs => (wipe ρ vs).set v none
def slotO (ρ : Env) (i : Nat) : Option MV := match ρ[i]? with
  | some (some v) => some v
  | _ => none
mutual
def ev (C : Cfg) : ME → Env → MH → Out MV
  | .var i, ρ, h => .of h (slotO ρ i)
  | .non, _, h => .ok .non h
  | .bl b, _, h => .ok (.bl b) h
  | .int i, _, h => .ok (.int i) h
  | .str x, _, h => .ok (.str x) h
  | .glb _ v, _, h => .ok v h
  | .bin op a b, ρ, h => (ev C a ρ h).bind fun v h1 => (ev C b ρ h1).bind fun w h2 => binM op v w h2
  | .neg a, ρ, h => (ev C a ρ h).bind fun v h1 => match v with
    | .int i => .ok (.int (-i)) h1
    | _ => .bad
  | .cmp op a b, ρ, h => (ev C a ρ h).bind fun v h1 => (ev C b ρ h1).bind fun w h2 => .of h2 ((cmpM op v w h2).map .bl)
  | .chn o1 o2 a b c, ρ, h => (ev C a ρ h).bind fun v h1 => (ev C b ρ h1).bind fun w h2 => match cmpM o1 v w h2 with
    | some true => (ev C c ρ h2).bind fun z h3 => .of h3 ((cmpM o2 w z h3).map .bl)
    | some false => .ok (.bl false) h2
    | none => .bad
  | .bop op es, ρ, h => evB C op es ρ h
  | .not a, ρ, h => (ev C a ρ h).bind fun v h1 => .of h1 ((truth h1 v).map fun b => .bl (!b))
  | .ifx c a b, ρ, h => (ev C c ρ h).bind fun v h1 => match truth h1 v with
    | some true => ev C a ρ h1
    | some false => ev C b ρ h1
    | none => .bad
  | .tup es, ρ, h => (evs C es ρ h).bind fun vs h1 => if vs.length ≤ line then .ok (.tup vs) h1 else .bad
  | .lst es, ρ, h => (evs C es ρ h).bind fun vs h1 => if vs.length ≤ line then alloc (.lst vs) h1 else .bad
  | .dic0, _, h => alloc (.dic []) h
  | .dic1 k v, ρ, h => (ev C k ρ h).bind fun x h1 => (ev C v ρ h1).bind fun y h2 => if kfit [] x then alloc (.dic [(x, y)]) h2 else .bad
  | .sub a i, ρ, h => (ev C a ρ h).bind fun v h1 => (ev C i ρ h1).bind fun w h2 => .of h2 (subM v w h2)
  | .slc a lo hi, ρ, h => (ev C a ρ h).bind fun v h1 => (evO C lo ρ h1).bind fun l h2 => (evO C hi ρ h2).bind fun u h3 => slcM v l u h3
  | .call _ f es, ρ, h => (evs C es ρ h).bind fun vs h1 => C.call f vs h1
  | .blt b es, ρ, h => (evs C es ρ h).bind fun vs h1 => bltM C b vs h1
  | .mth e m es, ρ, h => (ev C e ρ h).bind fun v h1 => if mthR m v h1 then (evs C es ρ h1).bind fun vs h2 => mthM m v vs h2 else .bad
  | .lc e t it ifs own, ρ, h => (evI C it ρ h).bind fun I h1 =>
      (lcM (fun i h2 => match I.at_ i h2 with
        | none => .bad
        | some none => .ok none h2
        | some (some v) => match asg C t v (wipe ρ (own.map (·.2))) h2 with
          | .next ρ3 h3 => (evA C ifs ρ3 h3).bind fun b h4 => if b then (ev C e ρ3 h4).bind fun x h5 => .ok (some (some x)) h5 else .ok (some none) h4
          | _ => .bad) C.fuel 0 [] h1).bind fun xs h2 => alloc (.lst xs) h2
/-- and, or: the values -/
def evB (C : Cfg) (op : BoolOp) : MEs → Env → MH → Out MV
  | .nil, _, _ => .bad
  | .cons e .nil, ρ, h => ev C e ρ h
  | .cons e es, ρ, h => (ev C e ρ h).bind fun v h1 => match op, truth h1 v with
    | _, none => .bad
    | .And, some false => .ok v h1
    | .Or, some true => .ok v h1
    | _, _ => evB C op es ρ h1
/-- all of these tests -/
def evA (C : Cfg) : MEs → Env → MH → Out Bool
  | .nil, _, h => .ok true h
  | .cons e es, ρ, h => (ev C e ρ h).bind fun v h1 => match truth h1 v with
    | some true => evA C es ρ h1
    | some false => .ok false h1
    | none => .bad
def evO (C : Cfg) : MOp → Env → MH → Out (Option Int)
  | .none, _, h => .ok none h
  | .some e, ρ, h => (ev C e ρ h).bind fun v h1 => match v with
    | .int i => .ok (some i) h1
    | _ => .bad
def evs (C : Cfg) : MEs → Env → MH → Out (List MV)
  | .nil, _, h => .ok [] h
  | .cons e es, ρ, h => (ev C e ρ h).bind fun v h1 => (evs C es ρ h1).bind fun vs h2 => .ok (v :: vs) h2
def evI (C : Cfg) : MI → Env → MH → Out It
  | .val e, ρ, h => (ev C e ρ h).bind fun v h1 => .of h1 (itV v h1)
  | .rng es, ρ, h => (evs C es ρ h).bind fun vs h1 => .of h1 (rngM vs)
/-- a value goes to a target -/
def asg (C : Cfg) : MT → MV → Env → MH → SOut
  | .name i, v, ρ, h => .next (ρ.set i (some v)) h
  | .tup ts, v, ρ, h => match v with
    | .tup xs => asgs C ts xs ρ h
    | _ => .bad
  | .sub a i, v, ρ, h => match ev C a ρ h with
    | .ok o h1 => match ev C i ρ h1 with
      | .ok k h2 => match setM o k v h2 with
        | some h3 => .next ρ h3
        | none => .bad
      | .exc c fs h2 => .exc c fs ρ h2
      | .bad => .bad
    | .exc c fs h1 => .exc c fs ρ h1
    | .bad => .bad
def asgs (C : Cfg) : MTs → List MV → Env → MH → SOut
  | .nil, [], ρ, h => .next ρ h
  | .cons t ts, v :: vs, ρ, h => match asg C t v ρ h with
    | .next ρ1 h1 => asgs C ts vs ρ1 h1
    | _ => .bad
  | _, _, _, _ => .bad
end
/-- a test -/
def evT (C : Cfg) (e : ME) (ρ : Env) (h : MH) : Out Bool := (ev C e ρ h).bind fun v h1 => .of h1 (truth h1 v)

def whileM (c : Env → MH → Out Bool) (b : Env → MH → SOut) : Nat → Env → MH → SOut
  | 0, _, _ => .bad
  | n + 1, ρ, h => match c ρ h with
    | .ok true h1 => match b ρ h1 with
      | .next ρ2 h2 => whileM c b n ρ2 h2
      | .cnt ρ2 h2 => whileM c b n ρ2 h2
      | .brk ρ2 h2 => .next ρ2 h2
      | o => o
    | .ok false h1 => .next ρ h1
    | .exc k fs h1 => .exc k fs ρ h1
    | .bad => .bad
def forM (I : It) (a : MV → Env → MH → SOut) (b : Env → MH → SOut) : Nat → Nat → Env → MH → SOut
  | 0, _, _, _ => .bad
  | n + 1, i, ρ, h => match I.at_ i h with
    | none => .bad
    | some none => .next ρ h
    | some (some v) => match a v ρ h with
      | .next ρ1 h1 => match b ρ1 h1 with
        | .next ρ2 h2 => forM I a b n (i + 1) ρ2 h2
        | .cnt ρ2 h2 => forM I a b n (i + 1) ρ2 h2
        | .brk ρ2 h2 => .next ρ2 h2
        | o => o
      | o => o
def augM (op : Operator) (v w : MV) (h : MH) : Out MV := match op with
  | .Add => match v, w with
    | .int i, .int j => .ok (.int (i + j)) h
    | .str x, .str y => if x.length + y.length ≤ line then .ok (.str (x ++ y)) h else .bad
    | _, _ => .bad
  | .Sub => match v, w with
    | .int i, .int j => .ok (.int (i - j)) h
    | _, _ => .bad
  | _ => .bad
mutual
def ex (C : Cfg) : MS → Env → MH → SOut
  | .exp e, ρ, h => match ev C e ρ h with
    | .ok _ h1 => .next ρ h1
    | .exc c fs h1 => .exc c fs ρ h1
    | .bad => .bad
  | .doc, ρ, h => .next ρ h
  | .ret e, ρ, h => match ev C e ρ h with
    | .ok v h1 => .ret v h1
    | .exc c fs h1 => .exc c fs ρ h1
    | .bad => .bad
  | .retN, _, h => .ret .non h
  | .pass, ρ, h => .next ρ h
  | .brk, ρ, h => .brk ρ h
  | .cnt, ρ, h => .cnt ρ h
  | .asg t e, ρ, h => match ev C e ρ h with
    | .ok v h1 => asg C t v ρ h1
    | .exc c fs h1 => .exc c fs ρ h1
    | .bad => .bad
  | .aug i op e, ρ, h => match slotO ρ i with
    | some v => match ev C e ρ h with
      | .ok w h1 => match augM op v w h1 with
        | .ok z h2 => .next (ρ.set i (some z)) h2
        | .exc c fs h2 => .exc c fs ρ h2
        | .bad => .bad
      | .exc c fs h1 => .exc c fs ρ h1
      | .bad => .bad
    | none => .bad
  | .ifs c a b, ρ, h => match evT C c ρ h with
    | .ok true h1 => exs C a ρ h1
    | .ok false h1 => exs C b ρ h1
    | .exc k fs h1 => .exc k fs ρ h1
    | .bad => .bad
  | .whl c b, ρ, h => whileM (evT C c) (exs C b) C.fuel ρ h
  | .for_ t it b, ρ, h => match evI C it ρ h with
    | .ok I h1 => forM I (asg C t) (exs C b) C.fuel 0 ρ h1
    | .exc c fs h1 => .exc c fs ρ h1
    | .bad => .bad
def exs (C : Cfg) : MSs → Env → MH → SOut
  | .nil, ρ, h => .next ρ h
  | .cons s ss, ρ, h => match ex C s ρ h with
    | .next ρ1 h1 => exs C ss ρ1 h1
    | o => o
end

/-! ### programs -/
structure Fn where
  name : Str
  qual : Str
  at_ : Str × Option Str
  params : List Str
  N : List Str
  body : MSs
structure Prog where
  fns : List Fn
  cls : List Cls
  fuel : Nat
  glb : List (Str × MV)
  free : List Str
def startM (n : Nat) (vs : List MV) : Env := vs.map some ++ List.replicate (n - vs.length) none
def Prog.cfg (P : Prog) (call : Nat → List MV → MH → Out MV) : Cfg := ⟨call, P.cls, P.fuel⟩
/-- a call with n levels of calls below it -/
def callM (P : Prog) : Nat → Nat → List MV → MH → Out MV
  | 0, _, _, _ => .bad
  | n + 1, f, vs, h => match P.fns[f]? with
    | some F => if vs.length = F.params.length then
        match exs (P.cfg (callM P n)) F.body (startM F.N.length vs) h with
        | .next _ h1 => .ok .non h1
        | .ret v h1 => .ok v h1
        | .exc c fs _ h1 => .exc c fs h1
        | _ => .bad
      else .bad
    | none => .bad
end Mi

set_option Elab.async false
set_option linter.all false
set_option maxRecDepth 100000
/-! Snd1: how the small interpreter's values and heap lie in the hand layer's abstract heap. -/
namespace Mi
open PySem PySem.Spec PyProof.Rows L2
abbrev St := L2.St

/-- what a run leans on -/
structure Dm where
  P : Program
  w : World
  K : PySem.W.Frag
  ca : Nat → Addr
abbrev dm (X : Cx) (ca : Nat → Addr) : Dm := ⟨X.prog, X.w, X.K, ca⟩

/-! ### values -/
section
variable (D : Dm) (φ : List Addr) (H : Hp)
mutual
inductive VR : MV → V → Prop
  | non : VR .non .non
  | bl (b : Bool) : VR (.bl b) (.bl b)
  | int (i : Int) : VR (.int i) (.int i)
  | str (x : Str) : VR (.str x) (.str x)
  | tup {xs : List MV} {a : Addr} {ys : List V} : SqT D.K H a ys → VRs xs ys → VR (.tup xs) (.ref a)
  | ref {n : Nat} {a : Addr} : φ[n]? = some a → VR (.ref n) (.ref a)
  | cls (c : Nat) : VR (.cls c) (.ref (D.ca c))
  | ty (t : Ty) : VR (.ty t) (.ty t.nm)
inductive VRs : List MV → List V → Prop
  | nil : VRs [] []
  | cons {v : MV} {x : V} {vs : List MV} {xs : List V} : VR v x → VRs vs xs → VRs (v :: vs) (x :: xs)
end
end
/-- the tuples stand -/
def TK (K : PySem.W.Frag) (H H' : Hp) : Prop := ∀ a xs, SqT K H a xs → SqT K H' a xs
section
variable {D : Dm} {φ φ' : List Addr} {H H' H2 : Hp}
theorem TK.refl : TK D.K H H := fun _ _ h => h
theorem TK.trans (a : TK D.K H H') (b : TK D.K H' H2) : TK D.K H H2 := fun x xs h => b x xs (a x xs h)
theorem TK.of (t : ∀ b xs, H b = some (.tup xs) → H' b = some (.tup xs)) (f : ∀ b o u, H b = some (.frz o u) → H' b = some (.frz o u)) : TK D.K H H' := fun a xs h => by
  rcases h with (h | ⟨o, h⟩) | h
  · exact .inl (.inl (t _ _ h))
  · exact .inl (.inr ⟨o, f _ _ _ h⟩)
  · exact .inr h
theorem TK.new {p : Addr} {o : HO} (hp : H p = none) : TK D.K H (upd H p o) :=
  .of (fun b xs e => by rw [upd_ne (ne_of_none e hp)]; exact e) fun b q u e => by rw [upd_ne (ne_of_none e hp)]; exact e
theorem TK.mut {p : Addr} {o : HO} (hm : Mut (H p)) : TK D.K H (upd H p o) :=
  .of (fun b xs e => by rw [upd_ne (by rintro rfl; rw [e] at hm; exact hm)]; exact e) fun b q u e => by rw [upd_ne (by rintro rfl; rw [e] at hm; exact hm)]; exact e
theorem pre_get {n : Nat} {a : Addr} (p : φ <+: φ') (h : φ[n]? = some a) : φ'[n]? = some a := by
  obtain ⟨r, rfl⟩ := p
  rw [List.getElem?_append_left (List.getElem?_eq_some_iff.mp h).1]
  exact h
mutual
theorem VR.mono (p : φ <+: φ') (t : TK D.K H H') : ∀ {v : MV} {x : V}, VR D φ H v x → VR D φ' H' v x
  | _, _, .non => .non
  | _, _, .bl b => .bl b
  | _, _, .int i => .int i
  | _, _, .str x => .str x
  | _, _, .tup h r => .tup (t _ _ h) (VRs.mono p t r)
  | _, _, .ref h => .ref (pre_get p h)
  | _, _, .cls c => .cls c
  | _, _, .ty s => .ty s
theorem VRs.mono (p : φ <+: φ') (t : TK D.K H H') : ∀ {vs : List MV} {xs : List V}, VRs D φ H vs xs → VRs D φ' H' vs xs
  | _, _, .nil => .nil
  | _, _, .cons h r => .cons (VR.mono p t h) (VRs.mono p t r)
end
theorem VRs.length : ∀ {vs : List MV} {xs : List V}, VRs D φ H vs xs → vs.length = xs.length
  | _, _, .nil => rfl
  | _, _, .cons _ r => congrArg Nat.succ r.length
theorem VRs.append : ∀ {vs ws : List MV} {xs ys : List V}, VRs D φ H vs xs → VRs D φ H ws ys → VRs D φ H (vs ++ ws) (xs ++ ys)
  | _, _, _, _, .nil, s => s
  | _, _, _, _, .cons h r, s => .cons h (r.append s)
theorem VRs.take : ∀ {vs : List MV} {xs : List V} (n : Nat), VRs D φ H vs xs → VRs D φ H (vs.take n) (xs.take n)
  | _, _, 0, _ => .nil
  | _, _, _ + 1, .nil => .nil
  | _, _, n + 1, .cons h r => .cons h (r.take n)
theorem VRs.drop : ∀ {vs : List MV} {xs : List V} (n : Nat), VRs D φ H vs xs → VRs D φ H (vs.drop n) (xs.drop n)
  | _, _, 0, r => r
  | _, _, _ + 1, .nil => .nil
  | _, _, n + 1, .cons h r => r.drop n
theorem VRs.set {v : MV} {x : V} (h : VR D φ H v x) : ∀ {vs : List MV} {xs : List V} (i : Nat), VRs D φ H vs xs → VRs D φ H (vs.set i v) (xs.set i x)
  | _, _, _, .nil => .nil
  | _, _, 0, .cons _ r => .cons h r
  | _, _, i + 1, .cons q r => .cons q (r.set h i)
theorem VRs.eraseIdx : ∀ {vs : List MV} {xs : List V} (i : Nat), VRs D φ H vs xs → VRs D φ H (vs.eraseIdx i) (xs.eraseIdx i)
  | _, _, _, .nil => .nil
  | _, _, 0, .cons _ r => r
  | _, _, i + 1, .cons q r => .cons q (r.eraseIdx i)
theorem VRs.flat {vs : List MV} {xs : List V} (h : VRs D φ H vs xs) : ∀ k : Nat, VRs D φ H (List.replicate k vs).flatten (List.replicate k xs).flatten
  | 0 => .nil
  | k + 1 => by
    rw [List.replicate_succ, List.replicate_succ, List.flatten_cons, List.flatten_cons]
    exact h.append (h.flat k)
theorem VRs.get : ∀ {vs : List MV} {xs : List V} {i : Nat} {v : MV}, VRs D φ H vs xs → vs[i]? = some v → ∃ x, xs[i]? = some x ∧ VR D φ H v x
  | _, _, _, _, .nil, e => by simp at e
  | _, _, 0, _, .cons h _, e => by simp at e; subst e; exact ⟨_, rfl, h⟩
  | _, _, i + 1, _, .cons _ r, e => by
    obtain ⟨x, h1, h2⟩ := r.get (i := i) (by simpa using e)
    exact ⟨x, by simpa using h1, h2⟩
theorem VRs.none {vs : List MV} {xs : List V} {i : Nat} (h : VRs D φ H vs xs) (e : vs[i]? = none) : xs[i]? = none := by
  have := h.length
  rw [List.getElem?_eq_none_iff] at e ⊢
  omega
theorem VRs.atI {vs : List MV} {xs : List V} {i : Int} {v : MV} (h : VRs D φ H vs xs) (e : L2.atI vs i = some v) : ∃ x, L2.atI xs i = some x ∧ VR D φ H v x := by
  unfold L2.atI at e ⊢
  rw [← h.length]
  cases q : L2.ixN vs.length i with
  | none => rw [q] at e; cases e
  | some j =>
    rw [q] at e
    exact h.get e
theorem VRs.cut {vs : List MV} {xs : List V} (lo hi : Option Int) (h : VRs D φ H vs xs) : VRs D φ H (cutM vs lo hi) (cutV xs lo hi) := by
  unfold cutM cutV
  rw [h.length]
  exact (h.drop _).take _

/-! ### objects -/
def kM : Key → MV
  | .inl i => .int i
  | .inr x => .str x
/-- the raw dict with tuples as keys -/
def dX (D : Dm) (a : Addr) (xs : List (NestedKey × Addr × Value)) : Heap → Prop := fun h => ∃ o es ep, h.get? a = some o ∧ o.ExactDict ∧ o.data = .dict es ep ∧ es.toList = xs.map (entryOfKey (nestedKind D.P D.w))
/-- one entry of it -/
def NE (D : Dm) (φ : List Addr) (H : Hp) (p : MV × MV) (x : NestedKey × Addr × Value) : Prop :=
  ∃ y, toK p.1 = some x.1 ∧ (∃ ks, x.1 = .tup ks) ∧ x.1.depth ≤ 8 ∧ VR D φ H p.1 (.ref x.2.1) ∧ RelV y x.2.2 ∧ VR D φ H p.2 y
def KE1 (D : Dm) (φ : List Addr) (H : Hp) (p : MV × MV) (q : Key × V) : Prop := p.1 = kM q.1 ∧ VR D φ H p.2 q.2
def DR (D : Dm) (φ : List Addr) (H : Hp) (kvs : List (MV × MV)) (a : Addr) : Prop :=
  (∃ ks : List (Key × V), H a = some (.dK ks) ∧ Paired (KE1 D φ H) kvs ks) ∨
    ∃ xs, H a = some (.ext (dX D a xs)) ∧ (a == sysModules) = false ∧ (xs.map (·.1)).Nodup ∧ kvs ≠ [] ∧ kvs.length ≤ sizeLine ∧ Paired (NE D φ H) kvs xs
/-- what stands at a for an object -/
def OR (D : Dm) (φ : List Addr) (H : Hp) : MO → Addr → Prop
  | .lst xs, a => ∃ ys, H a = some (.lst ys) ∧ VRs D φ H xs ys
  | .rol xs, a => ∃ o ys, H a = some (.frz o (.lst ys)) ∧ VRs D φ H xs ys
  | .dic kvs, a => DR D φ H kvs a
  | .ins c fs, a => False
theorem OR.mono (p : φ <+: φ') (t : TK D.K H H') {o : MO} {a : Addr} (e : H' a = H a) (h : OR D φ H o a) : OR D φ' H' o a := by
  cases o with
  | lst xs => obtain ⟨ys, h1, h2⟩ := h; exact ⟨ys, by rw [e]; exact h1, h2.mono p t⟩
  | rol xs => obtain ⟨o, ys, h1, h2⟩ := h; exact ⟨o, ys, by rw [e]; exact h1, h2.mono p t⟩
  | dic kvs =>
    rcases h with ⟨ks, h1, h2⟩ | ⟨xs, h1, h2, h3, h4, h4', h5⟩
    · exact .inl ⟨ks, by rw [e]; exact h1, L2.Paired.mapP h2 fun _ _ z => ⟨z.1, z.2.mono p t⟩⟩
    · exact .inr ⟨xs, by rw [e]; exact h1, h2, h3, h4, h4', L2.Paired.mapP h5 fun _ _ ⟨y, z1, z2, z3, z4, z5, z6⟩ => ⟨y, z1, z2, z3, z4.mono p t, z5, z6.mono p t⟩⟩
  | ins c fs => exact h.elim
theorem OR.some {o : MO} {a : Addr} (h : OR D φ H o a) : ∃ u, H a = .some u := by
  cases o with
  | lst xs => obtain ⟨ys, h1, h2⟩ := h; exact ⟨_, h1⟩
  | rol xs => obtain ⟨o, ys, h1, h2⟩ := h; exact ⟨_, h1⟩
  | dic kvs => rcases h with ⟨ks, h1, h2⟩ | ⟨xs, h1, h2⟩ <;> exact ⟨_, h1⟩
  | ins c fs => exact h.elim

structure Rep (D : Dm) (φ : List Addr) (h : MH) (H : Hp) : Prop where
  len : φ.length = h.length
  nd : φ.Nodup
  at_ : ∀ (i : Nat) (o : MO), h[i]? = some o → ∃ a, φ[i]? = some a ∧ OR D φ H o a
variable {h h' : MH}
theorem Rep.get (r : Rep D φ h H) {i : Nat} {a : Addr} {o : MO} (e : φ[i]? = some a) (q : h[i]? = some o) : OR D φ H o a := by
  obtain ⟨b, e', w⟩ := r.at_ i o q
  rw [e] at e'; cases e'
  exact w
theorem Rep.there (r : Rep D φ h H) {i : Nat} {a : Addr} (e : φ[i]? = some a) : ∃ o, h[i]? = some o := by
  have h1 := (List.getElem?_eq_some_iff.mp e).1
  rw [r.len] at h1
  exact ⟨h[i], List.getElem?_eq_getElem h1⟩
/-- the heap grows by things that are not told -/
theorem Rep.grow (r : Rep D φ h H) (t : TK D.K H H') (e : ∀ a u, H a = some u → H' a = H a) : Rep D φ h H' :=
  ⟨r.len, r.nd, fun i o q => by
    obtain ⟨a, ea, w⟩ := r.at_ i o q
    obtain ⟨u, hu⟩ := w.some
    exact ⟨a, ea, w.mono (List.prefix_refl _) t (e a u hu)⟩⟩
theorem Rep.upd (r : Rep D φ h H) {p : Addr} {o : HO} (hp : H p = none) : Rep D φ h (upd H p o) :=
  r.grow (TK.new hp) fun a u e => upd_ne (ne_of_none e hp)
/-- a new object -/
theorem Rep.alloc (r : Rep D φ h H) {p : Addr} {o : MO} {u : HO} (hp : H p = none) (w : OR D (φ ++ [p]) (L2.upd H p u) o p) : Rep D (φ ++ [p]) (h ++ [o]) (L2.upd H p u) := by
  have np : p ∉ φ := fun hm => by
    obtain ⟨i, hi⟩ := List.mem_iff_getElem?.mp hm
    obtain ⟨o', q⟩ := r.there hi
    obtain ⟨v, hv⟩ := (r.get hi q).some
    rw [hp] at hv; cases hv
  refine ⟨by simp [r.len], ?_, fun i o' q => ?_⟩
  · rw [List.nodup_append]
    exact ⟨r.nd, by simp, fun a ha b hb => by simp at hb; subst hb; rintro rfl; exact np ha⟩
  · by_cases hi : i < h.length
    · rw [List.getElem?_append_left hi] at q
      obtain ⟨a, ea, w'⟩ := r.at_ i o' q
      obtain ⟨v, hv⟩ := w'.some
      exact ⟨a, pre_get ⟨[p], rfl⟩ ea, w'.mono ⟨[p], rfl⟩ (TK.new hp) (upd_ne (ne_of_none hv hp))⟩
    · have hlt : i < (h ++ [o]).length := (List.getElem?_eq_some_iff.mp q).1
      have e : i = h.length := by simp at hlt; omega
      subst e
      rw [List.getElem?_append_right (Nat.le_refl _)] at q
      simp at q
      subst q
      exact ⟨p, by rw [← r.len, List.getElem?_append_right (Nat.le_refl _)]; simp, w⟩
/-- an object is changed -/
theorem Rep.set (r : Rep D φ h H) {i : Nat} {a : Addr} {o : MO} {u : HO} (e : φ[i]? = some a) (hm : Mut (H a)) (w : OR D φ (L2.upd H a u) o a) : Rep D φ (h.set i o) (L2.upd H a u) := by
  refine ⟨by simp [r.len], r.nd, fun j o' q => ?_⟩
  by_cases hj : i = j
  · subst hj
    have hl : i < h.length := by rw [← r.len]; exact (List.getElem?_eq_some_iff.mp e).1
    rw [List.getElem?_set_self hl] at q
    cases q
    exact ⟨a, e, w⟩
  · rw [List.getElem?_set_ne hj] at q
    obtain ⟨b, eb, w'⟩ := r.at_ j o' q
    have ne : b ≠ a := by
      rintro rfl
      obtain ⟨h1, e1⟩ := List.getElem?_eq_some_iff.mp e
      obtain ⟨h2, e2⟩ := List.getElem?_eq_some_iff.mp eb
      exact hj ((List.getElem_inj r.nd).mp (e1.trans e2.symm))
    exact ⟨b, eb, w'.mono (List.prefix_refl _) (TK.mut hm) (upd_ne ne)⟩
theorem Rep.lst (r : Rep D φ h H) {i : Nat} {a : Addr} {xs : List MV} (e : φ[i]? = some a) (q : h[i]? = some (.lst xs)) : ∃ ys, H a = some (.lst ys) ∧ VRs D φ H xs ys := r.get e q
theorem Rep.rol (r : Rep D φ h H) {i : Nat} {a : Addr} {xs : List MV} (e : φ[i]? = some a) (q : h[i]? = some (.rol xs)) : ∃ o ys, H a = some (.frz o (.lst ys)) ∧ VRs D φ H xs ys := r.get e q
/-- either kind of list, read -/
theorem Rep.sql (r : Rep D φ h H) {i : Nat} {a : Addr} {xs : List MV} (e : φ[i]? = some a) (q : h[i]? = some (.lst xs) ∨ h[i]? = some (.rol xs)) : ∃ ys, SqL D.K H a ys ∧ VRs D φ H xs ys := by
  rcases q with q | q
  · obtain ⟨ys, h1, h2⟩ := r.lst e q; exact ⟨ys, SqL.of h1, h2⟩
  · obtain ⟨o, ys, h1, h2⟩ := r.rol e q; exact ⟨ys, .inl (.inr ⟨o, h1⟩), h2⟩

/-! ### the frame -/
structure ER (D : Dm) (φ : List Addr) (H : Hp) (ρ : Env) (σ : St) : Prop where
  len : ρ.length = σ.length
  at_ : ∀ (i : Nat) (v : MV), ρ[i]? = some (some v) → ∃ x, σ[i]? = some (some x) ∧ VR D φ H v x
variable {ρ : Env} {σ : St}
theorem ER.mono (e : ER D φ H ρ σ) (p : φ <+: φ') (t : TK D.K H H') : ER D φ' H' ρ σ :=
  ⟨e.len, fun i v q => let ⟨x, h1, h2⟩ := e.at_ i v q; ⟨x, h1, h2.mono p t⟩⟩
theorem ER.set (e : ER D φ H ρ σ) {v : MV} {x : V} (i : Nat) (w : VR D φ H v x) : ER D φ H (ρ.set i (some v)) (σ.set i (some x)) := by
  refine ⟨by simp [e.len], fun j u q => ?_⟩
  by_cases hj : i = j
  · subst hj
    have hl : i < ρ.length := by
      have := (List.getElem?_eq_some_iff.mp q).1
      simpa using this
    rw [List.getElem?_set_self hl] at q
    cases q
    exact ⟨x, List.getElem?_set_self (by rw [← e.len]; exact hl), w⟩
  · rw [List.getElem?_set_ne hj] at q
    rw [List.getElem?_set_ne hj]
    exact e.at_ j u q
theorem wipe_get (σ : St) (j : Nat) : ∀ vs : List Nat, (L2.wipe σ vs)[j]? = if j ∈ vs ∧ j < σ.length then some none else σ[j]?
  | [] => by simp [L2.wipe]
  | v :: vs => by
    have ih := wipe_get σ j vs
    unfold L2.wipe
    by_cases hv : v = j
    · subst hv
      by_cases hl : v < σ.length
      · rw [List.getElem?_set_self (by rw [L2.wipe_length]; exact hl)]
        simp [hl]
      · rw [List.getElem?_eq_none (by rw [List.length_set, L2.wipe_length]; omega), if_neg (by omega), List.getElem?_eq_none (by omega)]
    · rw [List.getElem?_set_ne hv, ih]
      have : (j ∈ v :: vs) ↔ j ∈ vs := by simp [Ne.symm hv]
      simp only [this]
theorem ER.wipe (e : ER D φ H ρ σ) : ∀ vs : List Nat, ER D φ H (Mi.wipe ρ vs) (L2.wipe σ vs)
  | [] => e
  | v :: vs => by
    have ih := e.wipe vs
    refine ⟨by unfold Mi.wipe L2.wipe; simp [ih.len], fun i u q => ?_⟩
    unfold Mi.wipe at q
    unfold L2.wipe
    by_cases hv : v = i
    · subst hv
      by_cases hl : v < (Mi.wipe ρ vs).length
      · rw [List.getElem?_set_self hl] at q; cases q
      · rw [List.getElem?_eq_none (by simpa using hl)] at q; cases q
    · rw [List.getElem?_set_ne hv] at q
      rw [List.getElem?_set_ne hv]
      exact ih.at_ i u q
/-- the frames agree off these slots -/
def Off (ss : List Nat) (σ σ' : St) : Prop := σ'.length = σ.length ∧ ∀ j, j ∉ ss → σ'[j]? = σ[j]?
theorem Off.refl (ss : List Nat) (σ : St) : Off ss σ σ := ⟨rfl, fun _ _ => rfl⟩
theorem Off.trans {ss ss' : List Nat} {σ σ' σ2 : St} (a : Off ss σ σ') (b : Off ss' σ' σ2) : Off (ss ++ ss') σ σ2 :=
  ⟨b.1.trans a.1, fun j hj => by
    rw [List.mem_append, not_or] at hj
    rw [b.2 j hj.2, a.2 j hj.1]⟩
theorem Off.wipe {ss vs : List Nat} {σ σ2 : St} (o : Off ss (L2.wipe σ vs) σ2) (hs : ∀ j ∈ ss, j ∈ vs) : L2.wipe σ2 vs = L2.wipe σ vs := by
  apply List.ext_getElem?
  intro j
  have hl : σ2.length = σ.length := o.1.trans (L2.wipe_length _ _)
  rw [wipe_get, wipe_get, hl]
  by_cases hj : j ∈ vs
  · by_cases hl' : j < σ.length
    · rw [if_pos ⟨hj, hl'⟩, if_pos ⟨hj, hl'⟩]
    · rw [if_neg (by omega), if_neg (by omega), List.getElem?_eq_none (by omega), List.getElem?_eq_none (by omega)]
  · rw [if_neg (fun z => hj z.1), if_neg (fun z => hj z.1)]
    have := o.2 j (fun z => hj (hs j z))
    rw [this, wipe_get, if_neg (fun z => hj z.1)]

/-- a later state: what is not ours stands, what is new to us was free -/
structure Ext (D : Dm) (φ φ' : List Addr) (H H' : Hp) : Prop where
  pre : φ <+: φ'
  tk : TK D.K H H'
  fresh : ∀ a ∈ φ', a ∈ φ ∨ H a = none
  fr : ∀ a u, H a = some u → a ∉ φ → H' a = some u
theorem Ext.refl {φ : List Addr} {H : Hp} : Ext D φ φ H H := ⟨List.prefix_refl _, TK.refl, fun _ h => .inl h, fun _ _ e _ => e⟩
theorem Ext.trans {φ φ1 φ2 : List Addr} {H H1 H2 : Hp} (a : Ext D φ φ1 H H1) (b : Ext D φ1 φ2 H1 H2) : Ext D φ φ2 H H2 where
  pre := a.pre.trans b.pre
  tk := a.tk.trans b.tk
  fresh := fun x hx => by
    rcases b.fresh x hx with h | h
    · exact a.fresh x h
    · cases q : H x with
      | none => exact .inr rfl
      | some u =>
        by_cases hm : x ∈ φ
        · exact .inl hm
        · have := a.fr x u q hm
          rw [h] at this; cases this
  fr := fun x u e hm => by
    refine b.fr x u (a.fr x u e hm) fun hm1 => ?_
    rcases a.fresh x hm1 with h | h
    · exact hm h
    · rw [e] at h; cases h
/-- a free address is taken, for a thing of ours -/
theorem Ext.alloc {φ : List Addr} {H : Hp} {p : Addr} {o : HO} (hp : H p = none) : Ext D φ (φ ++ [p]) H (upd H p o) :=
  ⟨⟨[p], rfl⟩, TK.new hp, fun a ha => (List.mem_append.mp ha).elim .inl fun h => .inr (by rw [List.mem_singleton.mp h]; exact hp), fun a u e _ => by rw [upd_ne (ne_of_none e hp)]; exact e⟩
/-- a free address is taken, for a thing that is not told -/
theorem Ext.lay {φ : List Addr} {H : Hp} {p : Addr} {o : HO} (hp : H p = none) : Ext D φ φ H (upd H p o) :=
  ⟨List.prefix_refl _, TK.new hp, fun _ h => .inl h, fun a u e _ => by rw [upd_ne (ne_of_none e hp)]; exact e⟩
/-- an object of ours is changed -/
theorem Ext.mut {φ : List Addr} {H : Hp} {i : Nat} {p : Addr} {o : HO} (hi : φ[i]? = some p) (hm : Mut (H p)) : Ext D φ φ H (upd H p o) :=
  ⟨List.prefix_refl _, TK.mut hm, fun _ h => .inl h, fun a u e hn => by
    rw [upd_ne (by rintro rfl; exact hn (List.mem_of_getElem? hi))]; exact e⟩
theorem VR.ext {φ φ' : List Addr} {H H' : Hp} {v : MV} {x : V} (h : VR D φ H v x) (e : Ext D φ φ' H H') : VR D φ' H' v x := h.mono e.pre e.tk
theorem VRs.ext {φ φ' : List Addr} {H H' : Hp} {v : List MV} {x : List V} (h : VRs D φ H v x) (e : Ext D φ φ' H H') : VRs D φ' H' v x := h.mono e.pre e.tk
theorem ER.ext {φ φ' : List Addr} {H H' : Hp} {ρ : Env} {σ : St} (h : ER D φ H ρ σ) (e : Ext D φ φ' H H') : ER D φ' H' ρ σ := h.mono e.pre e.tk

/-! ### what is wanted of a run -/
/-- an exception of ours, in the air -/
def XR (D : Dm) (φ : List Addr) (H : Hp) (fs : List (Str × MV)) (d : Option Addr) : Prop := False
/-- the end of a run that hands back a thing -/
def Fin {α β : Type} (D : Dm) (W : WX) (R : List Addr → Hp → α → β → Prop) (σ : St) (φ : List Addr) (H : Hp) (Q : β → Hp → Prop) : Out α → Prop
  | .ok v h' => ∀ φ' H' x, Ext D φ φ' H H' → Rep D φ' h' H' → R φ' H' v x → Q x H'
  | .exc c fs h' => ∀ φ' H' d, Ext D φ φ' H H' → Rep D φ' h' H' → XR D φ' H' fs d → W (.ref (D.ca c)) d σ H'
  | .bad => False
section
variable {α β γ δ : Type} {W : WX} {R : List Addr → Hp → α → β → Prop} {S : List Addr → Hp → γ → δ → Prop} {Q : β → Hp → Prop}
theorem Fin.mono {o : Out α} (f : Fin D W R σ φ H Q o) (p : Ext D φ φ' H H') : Fin D W R σ φ' H' Q o := by
  cases o with
  | ok v h' => exact fun φ2 H2 x p2 => f φ2 H2 x (p.trans p2)
  | exc c fs h' => exact fun φ2 H2 d p2 => f φ2 H2 d (p.trans p2)
  | bad => exact f
theorem Fin.imp {o : Out α} {Q' : β → Hp → Prop} (f : Fin D W R σ φ H Q o) (q : ∀ x H', Q x H' → Q' x H') : Fin D W R σ φ H Q' o := by
  cases o with
  | ok v h' => exact fun φ2 H2 x p r w => q _ _ (f φ2 H2 x p r w)
  | exc c fs h' => exact f
  | bad => exact f
/-- the state behind a first run, and what is still wanted -/
def Aft (D : Dm) (S : List Addr → Hp → γ → δ → Prop) (φ : List Addr) (H : Hp) (k : γ → MH → List Addr → Hp → Prop) (x : δ) (H1 : Hp) : Prop :=
  ∃ φ1 h1 a, Ext D φ φ1 H H1 ∧ Rep D φ1 h1 H1 ∧ S φ1 H1 a x ∧ k a h1 φ1 H1
theorem Fin.bind {o : Out γ} {k : γ → MH → Out α} (f : Fin D W R σ φ H Q (o.bind k)) :
    Fin D W S σ φ H (Aft D S φ H fun a h1 φ1 H1 => Fin D W R σ φ1 H1 Q (k a h1)) o := by
  cases o with
  | ok v h1 => exact fun φ1 H1 x p r s => ⟨φ1, h1, v, p, r, s, Fin.mono (show Fin D W R σ φ H Q (k v h1) from f) p⟩
  | exc c fs h1 => exact f
  | bad => exact f
end
/-- a reading: from a state that a heap and a frame of ours lie in -/
def tM {α β : Type} (D : Dm) (W : WX) (R : List Addr → Hp → α → β → Prop) (m : Env → MH → Out α) : St → Hp → (β → Hp → Prop) → Prop := fun σ H Q =>
  ∃ φ h ρ, Rep D φ h H ∧ ER D φ H ρ σ ∧ Fin D W R σ φ H Q (m ρ h)
abbrev tE (D : Dm) (W : WX) (m : Env → MH → Out MV) : TE := tM D W (VR D) m
abbrev tT (D : Dm) (W : WX) (m : Env → MH → Out Bool) : TT := tM D W (fun _ _ (a b : Bool) => a = b) m
abbrev tA (D : Dm) (W : WX) (m : Env → MH → Out (List MV)) : TA := tM D W (VRs D) m
abbrev tO (D : Dm) (W : WX) (m : Env → MH → Out (Option Int)) : TO := tM D W (fun _ _ (a b : Option Int) => a = b) m
/-- what is walked -/
def IR (D : Dm) (φ : List Addr) (H : Hp) (I : Mi.It) (J : L2.It) : Prop := match I with
  | .lst r => ∃ a, φ[r]? = some a ∧ J = Itl D.K a
  | .tup xs => ∃ a ys, SqT D.K H a ys ∧ VRs D φ H xs ys ∧ J = Itt D.K a
  | .rng lo n => J = Itr lo n
  | .str x => J = Its x
abbrev tI (D : Dm) (W : WX) (m : Env → MH → Out Mi.It) : TI := tM D W (IR D) m
/-- a turn: it goes on as ours does -/
theorem IR.turn {I : Mi.It} {J : L2.It} {h' : MH} (ir : IR D φ H I J) (ee : Ext D φ φ' H H') (r : Rep D φ' h' H') (i : Nat) :
    (I.at_ i h' = some none → J.stop i H') ∧ ∀ v, I.at_ i h' = some (some v) → J.go i H' ∧ (∀ x H2, J.yld i H' x H2 → ∃ φ2, Ext D φ' φ2 H' H2 ∧ Rep D φ2 h' H2 ∧ VR D φ2 H2 v x) := by
  cases I with
  | lst n =>
    obtain ⟨a, ea, rfl⟩ := ir
    have ea' := pre_get ee.pre ea
    have key : ∀ xs, (h'[n]? = some (.lst xs) ∨ h'[n]? = some (.rol xs)) → (some xs[i]? = some none → (Itl D.K a).stop i H') ∧ ∀ v, some xs[i]? = some (some v) → (Itl D.K a).go i H' ∧ (∀ x H2, (Itl D.K a).yld i H' x H2 → ∃ φ2, Ext D φ' φ2 H' H2 ∧ Rep D φ2 h' H2 ∧ VR D φ2 H2 v x) := fun xs q => by
      obtain ⟨ys, h1, h2⟩ := r.sql ea' q
      refine ⟨fun e => ?_, fun v e => ?_⟩
      · have e' : xs[i]? = none := by simpa using e
        exact ⟨ys, h1, by have := h2.none e'; rw [List.getElem?_eq_none_iff] at this; exact this⟩
      · have e' : xs[i]? = some v := by simpa using e
        obtain ⟨x, hx, vx⟩ := h2.get e'
        refine ⟨⟨ys, x, h1, hx⟩, fun x' H2 ⟨eH, y⟩ => ?_⟩
        subst eH
        have := y ys h1
        rw [hx] at this
        cases this
        exact ⟨φ', Ext.refl, r, vx⟩
    cases q : h'[n]? with
    | none => simp only [Mi.It.at_, q]; exact ⟨fun e => (by cases e), fun v e => (by cases e)⟩
    | some o =>
      cases o with
      | lst xs => simp only [Mi.It.at_, q]; exact key xs (.inl q)
      | rol xs => simp only [Mi.It.at_, q]; exact key xs (.inr q)
      | dic kvs => simp only [Mi.It.at_, q]; exact ⟨fun e => (by cases e), fun v e => (by cases e)⟩
      | ins c fs => simp only [Mi.It.at_, q]; exact ⟨fun e => (by cases e), fun v e => (by cases e)⟩
  | tup xs =>
    obtain ⟨a, ys, h1, h2, rfl⟩ := ir
    have h1 := ee.tk _ _ h1
    have h2 := h2.ext ee
    simp only [Mi.It.at_]
    refine ⟨fun e => ?_, fun v e => ?_⟩
    · have e' : xs[i]? = none := by simpa using e
      exact ⟨ys, h1, by have := h2.none e'; rw [List.getElem?_eq_none_iff] at this; exact this⟩
    · have e' : xs[i]? = some v := by simpa using e
      obtain ⟨x, hx, vx⟩ := h2.get e'
      refine ⟨⟨ys, x, h1, hx⟩, fun x' H2 ⟨eH, y⟩ => ?_⟩
      subst eH
      have := y ys h1
      rw [hx] at this
      cases this
      exact ⟨φ', Ext.refl, r, vx⟩
  | rng lo n =>
    have ir : J = Itr lo n := ir
    subst ir
    simp only [Mi.It.at_]
    refine ⟨fun e => ?_, fun v e => ?_⟩
    · have e' : ¬ i < n := by
        intro hlt
        rw [if_pos hlt] at e
        simp at e
      show n ≤ i
      omega
    · by_cases hlt : i < n
      · rw [if_pos hlt] at e
        cases e
        refine ⟨hlt, fun x H2 ⟨eH, ex⟩ => ?_⟩
        subst eH ex
        exact ⟨φ', Ext.refl, r, .int _⟩
      · rw [if_neg hlt] at e; cases e
  | str x =>
    have ir : J = Its x := ir
    subst ir
    simp only [Mi.It.at_]
    refine ⟨fun e => ?_, fun v e => ?_⟩
    · have e' : x.cps.toList[i]? = none := by
        cases q : x.cps.toList[i]? with
        | none => rfl
        | some c => rw [q] at e; simp at e
      show x.cps.size ≤ i
      rw [List.getElem?_eq_none_iff, Array.length_toList] at e'
      exact e'
    · cases q : x.cps.toList[i]? with
      | none => rw [q] at e; simp at e
      | some c =>
        rw [q] at e
        simp at e
        subst e
        have hl : i < x.cps.size := by
          have := (List.getElem?_eq_some_iff.mp q).1
          simpa using this
        refine ⟨hl, fun y H2 ⟨eH, c', hc, ey⟩ => ?_⟩
        subst eH ey
        have : c' = c := by
          rw [Array.getElem?_toList] at q
          rw [q] at hc
          exact (Option.some.inj hc).symm
        subst this
        exact ⟨φ', Ext.refl, r, .str _⟩
end
end Mi

set_option Elab.async false
set_option linter.all false
set_option maxRecDepth 100000
set_option maxHeartbeats 2000000
/-! Snd2: the operators, builtins and methods of the small interpreter are the model's. -/
namespace Mi
open PySem PySem.Spec PyProof.Rows L2

section
variable {X : Cx} {ca : Nat → Addr} {W : WX} {pins : List (Addr × Obj)} {s : Shared} {σ : St} {H : Hp} {φ : List Addr} {h : MH} {Q : VK}
theorem Fin.ok0 {α β : Type} {R : List Addr → Hp → α → β → Prop} {D : Dm} {Q : β → Hp → Prop} {v : α} {x : β} (f : Fin D W R σ φ H Q (.ok v h)) (r : Rep D φ h H) (w : R φ H v x) : Q x H :=
  f φ H x Ext.refl r w
/-- a new object is handed back -/
theorem Fin.new {D : Dm} {o : MO} {p : Addr} {u : HO} (f : Fin D W (VR D) σ φ H Q (alloc o h)) (r : Rep D φ h H) (hp : H p = none) (w : OR D (φ ++ [p]) (upd H p u) o p) : Q (.ref p) (upd H p u) :=
  f (φ ++ [p]) _ _ (Ext.alloc hp) (r.alloc hp w) (.ref (by rw [← r.len, List.getElem?_append_right (Nat.le_refl _)]; simp))
theorem Fin.newL {D : Dm} {xs : List MV} {ys : List V} {p : Addr} (f : Fin D W (VR D) σ φ H Q (alloc (.lst xs) h)) (r : Rep D φ h H) (hp : H p = none) (w : VRs D φ H xs ys) : Q (.ref p) (upd H p (.lst ys)) :=
  f.new r hp ⟨ys, upd_same, w.mono ⟨[p], rfl⟩ (TK.new hp)⟩
/-- a new tuple is handed back -/
theorem Fin.newT {D : Dm} {xs : List MV} {ys : List V} {p : Addr} (f : Fin D W (VR D) σ φ H Q (.ok (.tup xs) h)) (r : Rep D φ h H) (hp : H p = none) (w : VRs D φ H xs ys) : Q (.ref p) (upd H p (.tup ys)) :=
  f φ _ _ (Ext.lay hp) (r.upd hp) (.tup (SqT.of upd_same) (w.mono (List.prefix_refl _) (TK.new hp)))
theorem line_eq : line = sizeLine := by rw [sizeLine_eq]

/-- binary operators -/
theorem bin_ok {op : Operator} {a b : MV} {x y : V} {v u : Value} (I : Inv X pins σ H s) (rv : RelV x v) (ru : RelV y u) (r : Rep (dm X ca) φ h H) (va : VR (dm X ca) φ H a x) (vb : VR (dm X ca) φ H b y)
    (f : Fin (dm X ca) W (VR (dm X ca)) σ φ H Q (binM op a b h)) : wpAny (model X.prog X.w) X.A (binaryOp op v u) (EP X pins σ Q) X.xe s := by
  have hl := line_eq
  cases op with
  | Add =>
    cases va with
    | int i => cases vb with
      | int j => exact op_add pins s σ H _ _ v u Q I rv ru ⟨i, j, rfl, rfl, f.ok0 r (.int _)⟩
      | _ => exact f.elim
    | str i => cases vb with
      | str j =>
        unfold binM at f
        dsimp only at f
        split at f
        · rename_i hz
          exact op_add_str pins s σ H _ _ v u Q I rv ru ⟨i, j, rfl, rfl, hl ▸ hz, f.ok0 r (.str _)⟩
        · exact f.elim
      | _ => exact f.elim
    | @tup xs c zs h1 h2 => cases vb with
      | @tup ys d ws h3 h4 =>
        unfold binM at f
        dsimp only at f
        split at f
        · rename_i hz
          have e1 := h2.length
          have e2 := h4.length
          refine op_catA pins s σ H _ _ v u Q I rv ru ⟨c, d, zs, ws, rfl, rfl, h1, h3, by rw [← e1, ← e2, ← hl]; exact hz, fun e => ?_, fun _ e => ?_, fun _ _ p hp => ?_⟩
          · subst e
            cases h2
            exact f.ok0 r (.tup h3 h4)
          · subst e
            cases h4
            rw [List.append_nil] at f
            exact f.ok0 r (.tup h1 h2)
          · exact f.newT r hp (h2.append h4)
        · exact f.elim
      | _ => exact f.elim
    | @ref n c hc => cases vb with
      | @ref m d hd =>
        unfold binM at f
        dsimp only at f
        split at f
        · rename_i xs ys q1 q2
          split at f
          · rename_i hz
            obtain ⟨zs, g1, g2⟩ := r.lst hc q1
            obtain ⟨ws, g3, g4⟩ := r.lst hd q2
            exact op_cat pins s σ H _ _ v u Q I rv ru ⟨c, d, zs, ws, rfl, rfl, g1, g3, by rw [← g2.length, ← g4.length, ← hl]; exact hz, fun p hp => f.newL r hp (g2.append g4)⟩
          · exact f.elim
        · exact f.elim
      | _ => exact f.elim
    | _ => cases vb <;> exact f.elim
  | Sub =>
    cases va with
    | int i => cases vb with
      | int j => exact op_sub pins s σ H _ _ v u Q I rv ru ⟨i, j, rfl, rfl, f.ok0 r (.int _)⟩
      | _ => exact f.elim
    | _ => exact f.elim
  | Mult =>
    cases va with
    | int i => cases vb with
      | int j =>
        unfold binM at f
        dsimp only at f
        split at f
        · rename_i hz
          have hc : CMul i j := by
            unfold cmulB at hz
            simp only [Bool.or_eq_true, Bool.and_eq_true, decide_eq_true_eq] at hz
            exact hz
          exact op_mul pins s σ H _ _ v u Q I rv ru ⟨i, j, rfl, rfl, hc, f.ok0 r (.int _)⟩
        · exact f.elim
      | _ => exact f.elim
    | @ref n c hc => cases vb with
      | int k =>
        unfold binM at f
        dsimp only at f
        split at f
        · rename_i xs q1
          split at f
          · rename_i hz
            obtain ⟨zs, g1, g2⟩ := r.lst hc q1
            exact op_rep pins s σ H _ _ v u Q I rv ru ⟨c, k, zs, rfl, rfl, g1, hz.1, hz.2.1, by rw [← g2.length, ← hl]; exact hz.2.2, fun p hp => f.newL r hp (g2.flat _)⟩
          · exact f.elim
        · exact f.elim
      | _ => exact f.elim
    | _ => exact f.elim
  | FloorDiv =>
    cases va with
    | int i => cases vb with
      | int j =>
        unfold binM at f
        dsimp only at f
        split at f
        · rename_i hz
          exact op_fdivN pins s σ H _ _ v u Q I rv ru ⟨i, j, rfl, rfl, hz, f.ok0 r (.int _)⟩
        · exact f.elim
      | _ => exact f.elim
    | _ => exact f.elim
  | Mod =>
    cases va with
    | int i => cases vb with
      | int j =>
        unfold binM at f
        dsimp only at f
        split at f
        · rename_i hz
          exact op_modN pins s σ H _ _ v u Q I rv ru ⟨i, j, rfl, rfl, hz, f.ok0 r (.int _)⟩
        · exact f.elim
      | _ => exact f.elim
    | _ => exact f.elim
  | Pow =>
    cases va with
    | int i => cases vb with
      | int j =>
        unfold binM at f
        dsimp only at f
        split at f
        · rename_i hz
          exact op_pow pins s σ H _ _ v u Q I rv ru ⟨i, j, rfl, rfl, hz, f.ok0 r (.int _)⟩
        · exact f.elim
      | _ => exact f.elim
    | _ => exact f.elim
  | _ => exact f.elim

/-! ### equality, by data -/
mutual
theorem toD_ok {D : Dm} (r : Rep D φ h H) : ∀ (n : Nat) (v : MV) (x : V) (d : PyData), VR D φ H v x → toD h n v = some d → Dp D.K H x d
  | n, .non, _, _, w, e => by cases w; cases n <;> (simp [toD] at e; subst e; exact .non)
  | n, .bl b, _, _, w, e => by cases w; cases n <;> (simp [toD] at e; subst e; exact .bl _)
  | n, .int i, _, _, w, e => by cases w; cases n <;> (simp [toD] at e; subst e; exact .int _)
  | n, .str z, _, _, w, e => by cases w; cases n <;> (simp [toD] at e; subst e; exact .str _)
  | n + 1, .tup xs, _, _, w, e => by
    cases w with
    | tup h1 h2 =>
      simp only [toD, Option.map_eq_some_iff] at e
      obtain ⟨ds, e1, e2⟩ := e
      subst e2
      exact .tup h1 (toDs_ok r n _ _ _ h2 e1)
  | n + 1, .ref m, _, _, w, e => by
    cases w with
    | ref hm =>
      simp only [toD] at e
      split at e
      · rename_i xs q
        obtain ⟨ds, e1, e2⟩ := Option.map_eq_some_iff.mp e
        subst e2
        obtain ⟨ys, g1, g2⟩ := r.sql hm (.inl q)
        exact .lst g1 (toDs_ok r n _ _ _ g2 e1)
      · rename_i xs q
        obtain ⟨ds, e1, e2⟩ := Option.map_eq_some_iff.mp e
        subst e2
        obtain ⟨ys, g1, g2⟩ := r.sql hm (.inr q)
        exact .lst g1 (toDs_ok r n _ _ _ g2 e1)
      · cases e
  | 0, .tup _, _, _, _, e => by simp [toD] at e
  | 0, .ref _, _, _, _, e => by simp [toD] at e
  | 0, .cls _, _, _, _, e => by simp [toD] at e
  | _ + 1, .cls _, _, _, _, e => by simp [toD] at e
  | 0, .ty _, _, _, _, e => by simp [toD] at e
  | _ + 1, .ty _, _, _, _, e => by simp [toD] at e
termination_by n v => (n, 0)
theorem toDs_ok {D : Dm} (r : Rep D φ h H) : ∀ (n : Nat) (vs : List MV) (xs : List V) (ds : List PyData), VRs D φ H vs xs → mapO (toD h n) vs = some ds → DpAll D.K H xs ds
  | _, [], _, _, w, e => by cases w; simp [mapO] at e; subst e; exact .nil
  | n, v :: vs, _, _, w, e => by
    cases w with
    | cons w1 w2 =>
      simp only [mapO] at e
      split at e
      · rename_i d e1
        split at e
        · rename_i ds e2
          cases e
          exact .cons (toD_ok r n _ _ _ w1 e1) (toDs_ok r n _ _ _ w2 e2)
        · cases e
      · cases e
termination_by n vs => (n, vs.length + 1)
end
theorem room64 {k : Nat} (hr : Room k X.A) : X.A.units + 65 < cLine := by have := hr.un; omega
theorem eq_ok {k : Nat} (hr : Room k X.A) {a b : MV} {x y : V} {v u : Value} {c : Bool} (I : Inv X pins σ H s) (rv : RelV x v) (ru : RelV y u) (r : Rep (dm X ca) φ h H) (va : VR (dm X ca) φ H a x) (vb : VR (dm X ca) φ H b y)
    (e : eqM h a b = some c) (q : Q (.bl c) H) : wpAny (model X.prog X.w) X.A (compareOp .Eq v u) (EP X pins σ Q) X.xe s := by
  unfold eqM at e
  split at e
  · rename_i d e1
    split at e
    · rename_i d' e2
      split at e
      · rename_i hs
        cases e
        obtain ⟨s1, s2⟩ := Bool.and_eq_true_iff.mp hs
        exact op_eqD (by have := room64 hr; omega) pins s σ H _ _ v u Q I rv ru ⟨d, d', toD_ok r _ _ _ _ va e1, toD_ok r _ _ _ _ vb e2, s1, s2, q⟩
      · cases e
    · cases e
  · cases e
theorem ne_ok {k : Nat} (hr : Room k X.A) {a b : MV} {x y : V} {v u : Value} {c : Bool} (I : Inv X pins σ H s) (rv : RelV x v) (ru : RelV y u) (r : Rep (dm X ca) φ h H) (va : VR (dm X ca) φ H a x) (vb : VR (dm X ca) φ H b y)
    (e : eqM h a b = some c) (q : Q (.bl (!c)) H) : wpAny (model X.prog X.w) X.A (compareOp .NotEq v u) (EP X pins σ Q) X.xe s := by
  unfold eqM at e
  split at e
  · rename_i d e1
    split at e
    · rename_i d' e2
      split at e
      · rename_i hs
        cases e
        obtain ⟨s1, s2⟩ := Bool.and_eq_true_iff.mp hs
        exact op_neD (by have := room64 hr; omega) pins s σ H _ _ v u Q I rv ru ⟨d, d', toD_ok r _ _ _ _ va e1, toD_ok r _ _ _ _ vb e2, s1, s2, q⟩
      · cases e
    · cases e
  · cases e
end
end Mi

set_option Elab.async false
set_option linter.all false
set_option maxRecDepth 100000
set_option maxHeartbeats 2000000
/-! Snd3: dicts. -/
namespace Mi
open PySem PySem.Spec PyProof.Rows L2

/-! ### keys -/
theorem beq_kM (a b : Key) : MV.beq (kM a) (kM b) = decide (a = b) := by
  cases a with
  | inl i => cases b with
    | inl j =>
      rw [key_ll]
      rfl
    | inr y => rw [key_lr]; rfl
  | inr x => cases b with
    | inl j => rw [key_rl]; rfl
    | inr y =>
      rw [key_rr]
      show (x == y) = _
      by_cases e : x = y
      · subst e; simp
      · rw [decide_eq_false e]; exact beq_eq_false_iff_ne.mpr e
mutual
theorem beq_toK : ∀ (v w : MV) (k l : NestedKey), toK v = some k → toK w = some l → MV.beq v w = NestedKey.beq k l
  | .non, w, k, l, e, e' => by
    simp [toK] at e; subst e
    cases w with
    | non => simp [toK] at e'; subst e'; rfl
    | int j => simp [toK] at e'; subst e'; rfl
    | str j => simp [toK] at e'; subst e'; rfl
    | tup ys => simp only [toK, Option.map_eq_some_iff] at e'; obtain ⟨ls, _, rfl⟩ := e'; rfl
    | _ => simp [toK] at e'
  | .int i, w, k, l, e, e' => by
    simp [toK] at e; subst e
    cases w with
    | non => simp [toK] at e'; subst e'; rfl
    | int j =>
      simp [toK] at e'; subst e'
      show (i == j) = decide (i = j)
      rw [Bool.beq_eq_decide_eq]
    | str j => simp [toK] at e'; subst e'; rfl
    | tup ys => simp only [toK, Option.map_eq_some_iff] at e'; obtain ⟨ls, _, rfl⟩ := e'; rfl
    | _ => simp [toK] at e'
  | .str x, w, k, l, e, e' => by
    simp [toK] at e; subst e
    cases w with
    | non => simp [toK] at e'; subst e'; rfl
    | int j => simp [toK] at e'; subst e'; rfl
    | str y =>
      simp [toK] at e'; subst e'
      show (x == y) = decide (x = y)
      by_cases q : x = y
      · subst q; simp
      · rw [decide_eq_false q]; exact beq_eq_false_iff_ne.mpr q
    | tup ys => simp only [toK, Option.map_eq_some_iff] at e'; obtain ⟨ls, _, rfl⟩ := e'; rfl
    | _ => simp [toK] at e'
  | .tup xs, w, k, l, e, e' => by
    simp only [toK, Option.map_eq_some_iff] at e
    obtain ⟨ks, e1, rfl⟩ := e
    cases w with
    | non => simp [toK] at e'; subst e'; rfl
    | int j => simp [toK] at e'; subst e'; rfl
    | str y => simp [toK] at e'; subst e'; rfl
    | tup ys =>
      simp only [toK, Option.map_eq_some_iff] at e'
      obtain ⟨ls, e2, rfl⟩ := e'
      rw [MV.beq, NestedKey.beq]
      exact beqs_toK xs ys ks ls e1 e2
    | _ => simp [toK] at e'
  | .bl _, _, _, _, e, _ => by simp [toK] at e
  | .ref _, _, _, _, e, _ => by simp [toK] at e
  | .cls _, _, _, _, e, _ => by simp [toK] at e
  | .ty _, _, _, _, e, _ => by simp [toK] at e
theorem beqs_toK : ∀ (vs ws : List MV) (ks ls : List NestedKey), toKs vs = some ks → toKs ws = some ls → MV.beqs vs ws = NestedKey.beqAll ks ls
  | [], [], _, _, e, e' => by simp [toKs] at e e'; subst e e'; rfl
  | [], w :: ws, _, _, e, e' => by
    simp [toKs] at e; subst e
    simp only [toKs] at e'
    split at e'
    · obtain ⟨l, _, rfl⟩ := Option.map_eq_some_iff.mp e'
      rfl
    · cases e'
  | v :: vs, [], _, _, e, e' => by
    simp [toKs] at e'; subst e'
    simp only [toKs] at e
    split at e
    · obtain ⟨l, _, rfl⟩ := Option.map_eq_some_iff.mp e
      rfl
    · cases e
  | v :: vs, w :: ws, _, _, e, e' => by
    simp only [toKs] at e e'
    split at e
    · rename_i k e1
      split at e'
      · rename_i l e1'
        obtain ⟨ks, e2, rfl⟩ := Option.map_eq_some_iff.mp e
        obtain ⟨ls, e2', rfl⟩ := Option.map_eq_some_iff.mp e'
        rw [MV.beqs, NestedKey.beqAll, beq_toK v w k l e1 e1', beqs_toK vs ws ks ls e2 e2']
      · cases e'
    · cases e
end
theorem kk1 {k : MV} (e : kk k = 1) : ∃ q : Key, k = kM q := by
  cases k with
  | int i => exact ⟨.inl i, rfl⟩
  | str x => exact ⟨.inr x, rfl⟩
  | tup xs =>
    simp only [kk] at e
    split at e
    · split at e <;> cases e
    · cases e
  | _ => cases e
theorem kk2 {k : MV} (e : kk k = 2) : ∃ ks, toK k = some (.tup ks) ∧ (NestedKey.tup ks).depth ≤ 8 := by
  cases k with
  | tup xs =>
    simp only [kk] at e
    split at e
    · rename_i k q
      split at e
      · rename_i hd
        have q0 := q
        simp only [toK, Option.map_eq_some_iff] at q
        obtain ⟨ks, _, rfl⟩ := q
        exact ⟨ks, q0, hd⟩
      · cases e
    · cases e
  | _ => cases e
theorem kk_kM (q : Key) : kk (kM q) = 1 := by cases q <;> rfl
theorem kk_toK {v : MV} {ks : List NestedKey} (e : toK v = some (.tup ks)) (hd : (NestedKey.tup ks).depth ≤ 8) : kk v = 2 := by
  cases v with
  | tup xs => simp only [kk, e, if_pos hd]
  | non => simp [toK] at e
  | int => simp [toK] at e
  | str => simp [toK] at e
  | _ => simp [toK] at e
theorem kk_le (v : MV) : kk v = 0 ∨ kk v = 1 ∨ kk v = 2 := by
  cases v with
  | tup xs =>
    simp only [kk]
    split
    · split <;> simp
    · simp
  | int => exact .inr (.inl rfl)
  | str => exact .inr (.inl rfl)
  | _ => exact .inl rfl

section
variable {X : Cx} {ca : Nat → Addr} {W : WX} {pins : List (Addr × Obj)} {s : Shared} {σ : St} {H : Hp} {φ : List Addr} {h : MH} {D : Dm} {A : Around} {E : Value → Shared → Prop}
/-- a dict by its kind -/
theorem DR.cases {kvs : List (MV × MV)} {a : Addr} {k : MV} (d : DR D φ H kvs a) (f : kfit kvs k = true) :
    (∃ q ks, k = kM q ∧ H a = some (.dK ks) ∧ Paired (KE1 D φ H) kvs ks) ∨
    (∃ ks, toK k = some (.tup ks) ∧ (NestedKey.tup ks).depth ≤ 8 ∧ ((kvs = [] ∧ H a = some (.dK [])) ∨
      ∃ xs, H a = some (.ext (dX D a xs)) ∧ (a == sysModules) = false ∧ (xs.map (·.1)).Nodup ∧ kvs ≠ [] ∧ kvs.length ≤ sizeLine ∧ Paired (NE D φ H) kvs xs)) := by
  unfold kfit at f
  simp only [Bool.and_eq_true, Bool.or_eq_true, bne_iff_ne, beq_iff_eq] at f
  obtain ⟨f0, f1⟩ := f
  rcases kk_le k with e | e | e
  · exact absurd e f0
  · obtain ⟨q, rfl⟩ := kk1 e
    refine .inl ?_
    rcases d with ⟨ks, h1, h2⟩ | ⟨xs, h1, h2, h3, h4, h4', h5⟩
    · exact ⟨q, ks, rfl, h1, h2⟩
    · exfalso
      cases h5 with
      | nil => exact h4 rfl
      | @cons p x ps xs' z zs =>
        obtain ⟨y, z1, ⟨ks, z2⟩, z3, _⟩ := z
        rw [z2] at z1 z3
        have := kk_toK z1 z3
        rcases f1 with g | g
        · simp [dk, this] at g
        · simp [dk, this, kk_kM] at g
  · obtain ⟨ks, h1, h2⟩ := kk2 e
    refine .inr ⟨ks, h1, h2, ?_⟩
    rcases d with ⟨ks', g1, g2⟩ | d
    · cases g2 with
      | nil => exact .inl ⟨rfl, g1⟩
      | @cons p q ps qs z zs =>
        exfalso
        have z1 : p.1 = kM q.1 := z.1
        rcases f1 with g | g
        · simp [dk, z1, kk_kM] at g
        · simp [dk, z1, kk_kM, e] at g
    · exact .inr d

/-! ### plain keys -/
theorem KE1.any {kvs : List (MV × MV)} {ks : List (Key × V)} (r : Paired (KE1 D φ H) kvs ks) (q : Key) : (kvs.any fun p => MV.beq p.1 (kM q)) = ks.any fun p => decide (p.1 = q) := by
  induction r with
  | nil => rfl
  | @cons p x ps xs z _ ih =>
    rw [List.any_cons, List.any_cons, ih, z.1, beq_kM]
theorem KE1.get {kvs : List (MV × MV)} {ks : List (Key × V)} (r : Paired (KE1 D φ H) kvs ks) (q : Key) :
    (dget kvs (kM q) = none ∧ valV ks q = none) ∨ ∃ v y, dget kvs (kM q) = some v ∧ valV ks q = some y ∧ VR D φ H v y := by
  induction r with
  | nil => exact .inl ⟨rfl, rfl⟩
  | @cons p x ps xs z _ ih =>
    by_cases e : x.1 = q
    · refine .inr ⟨p.2, x.2, ?_, valV_pos e, z.2⟩
      unfold dget
      rw [List.find?_cons, z.1, beq_kM, e]
      simp
    · have e2 : dget (p :: ps) (kM q) = dget ps (kM q) := by
        unfold dget
        rw [List.find?_cons, z.1, beq_kM, decide_eq_false e]
      rw [e2, valV_neg e]
      exact ih
theorem KE1.put {kvs : List (MV × MV)} {ks : List (Key × V)} (r : Paired (KE1 D φ H) kvs ks) (q : Key) {v : MV} {y : V} (w : VR D φ H v y) : Paired (KE1 D φ H) (dput kvs (kM q) v) (putK ks q y) := by
  unfold dput putK
  rw [KE1.any r q]
  by_cases e : (ks.any fun p => decide (p.1 = q)) = true
  · rw [if_pos e, if_pos e]
    clear e
    induction r with
    | nil => exact .nil
    | @cons p x ps xs z _ ih =>
      refine .cons ?_ ih
      show KE1 D φ H (if MV.beq p.1 (kM q) then (p.1, v) else p) (if x.1 = q then (x.1, y) else x)
      rw [z.1, beq_kM]
      by_cases e : x.1 = q
      · rw [if_pos (by simpa using e), if_pos e]
        exact ⟨rfl, w⟩
      · rw [if_neg (by simpa using e), if_neg e]
        exact z
  · rw [if_neg e, if_neg e]
    clear e
    induction r with
    | nil => exact .cons ⟨rfl, w⟩ .nil
    | cons z _ ih => exact .cons z ih

/-! ### tuples as keys -/
mutual
theorem nest_ok (I : Inv X pins σ H s) : ∀ (v : MV) (x : V) (u : Value) (k : NestedKey), VR (dm X ca) φ H v x → RelV x u → toK v = some k → NestedIs s.heap k u
  | .non, _, _, _, w, r, e => by
    cases w
    cases r
    simp [toK] at e; subst e
    exact .none
  | .int i, _, _, _, w, r, e => by
    cases w
    obtain ⟨t, rfl⟩ := r
    simp [toK] at e; subst e
    exact .int _ _
  | .str x, _, _, _, w, r, e => by
    cases w
    obtain ⟨t, rfl⟩ := r
    simp [toK] at e; subst e
    exact .text _ _
  | .tup xs, _, _, _, w, r, e => by
    cases w with
    | tup h1 h2 =>
      cases r
      simp only [toK, Option.map_eq_some_iff] at e
      obtain ⟨ks, e1, rfl⟩ := e
      obtain ⟨its, rv, ⟨o, ho, hc, n, hd⟩, _⟩ := I.tuple h1
      exact .tup ho hc hd (by simpa using nests_ok I xs _ _ _ h2 rv e1)
  | .bl _, _, _, _, _, _, e => by simp [toK] at e
  | .ref _, _, _, _, _, _, e => by simp [toK] at e
  | .cls _, _, _, _, _, _, e => by simp [toK] at e
  | .ty _, _, _, _, _, _, e => by simp [toK] at e
theorem nests_ok (I : Inv X pins σ H s) : ∀ (vs : List MV) (xs : List V) (us : List Value) (ks : List NestedKey), VRs (dm X ca) φ H vs xs → Vals xs us → toKs vs = some ks → NestedAll s.heap ks us
  | [], _, _, _, w, r, e => by
    cases w
    cases r
    simp [toKs] at e; subst e
    exact .nil
  | v :: vs, _, _, _, w, r, e => by
    cases w with
    | cons w1 w2 =>
      cases r with
      | cons r1 r2 =>
        simp only [toKs] at e
        split at e
        · rename_i k e1
          obtain ⟨ks, e2, rfl⟩ := Option.map_eq_some_iff.mp e
          exact .cons (nest_ok I v _ _ _ w1 r1 e1) (nests_ok I vs _ _ _ w2 r2 e2)
        · cases e
end
theorem NE.any {kvs : List (MV × MV)} {xs : List (NestedKey × Addr × Value)} (r : Paired (NE D φ H) kvs xs) {v : MV} {k : NestedKey} (e : toK v = some k) : (kvs.any fun p => MV.beq p.1 v) = (atKey xs k).isSome := by
  induction r with
  | nil => rfl
  | @cons p x ps xs z _ ih =>
    obtain ⟨y, z1, _⟩ := z
    rw [List.any_cons, ih, beq_toK _ _ _ _ z1 e, ← NestedKey.decide_eq]
    unfold atKey
    rw [List.find?_cons]
    by_cases q : x.1 = k
    · simp [q]
    · simp [q]
theorem NE.get {kvs : List (MV × MV)} {xs : List (NestedKey × Addr × Value)} (r : Paired (NE D φ H) kvs xs) {v : MV} {k : NestedKey} (e : toK v = some k) :
    (dget kvs v = none ∧ atKey xs k = none) ∨ ∃ w y p, dget kvs v = some w ∧ atKey xs k = some p ∧ RelV y p.2 ∧ VR D φ H w y := by
  induction r with
  | nil => exact .inl ⟨rfl, rfl⟩
  | @cons p x ps xs z _ ih =>
    obtain ⟨y, z1, _, _, _, z5, z6⟩ := z
    by_cases q : x.1 = k
    · refine .inr ⟨p.2, y, x.2, ?_, ?_, z5, z6⟩
      · unfold dget
        rw [List.find?_cons, beq_toK _ _ _ _ z1 e, ← NestedKey.decide_eq]
        simp [q]
      · unfold atKey
        rw [List.find?_cons]
        simp [q]
    · have e2 : dget (p :: ps) v = dget ps v := by
        unfold dget
        rw [List.find?_cons, beq_toK _ _ _ _ z1 e, ← NestedKey.decide_eq, decide_eq_false q]
      have e3 : atKey (x :: xs) k = atKey xs k := by
        unfold atKey
        rw [List.find?_cons, decide_eq_false q]
      rw [e2, e3]
      exact ih
theorem NE.put {kvs : List (MV × MV)} {xs : List (NestedKey × Addr × Value)} (r : Paired (NE D φ H) kvs xs) {v w : MV} {ks : List NestedKey} {b : Addr} {y : V} {u : Value} (e : toK v = some (.tup ks)) (hd : (NestedKey.tup ks).depth ≤ 8)
    (vb : VR D φ H v (.ref b)) (ry : RelV y u) (wy : VR D φ H w y) : Paired (NE D φ H) (dput kvs v w) (storedH xs (.tup ks) b u) := by
  unfold dput storedH
  rw [NE.any r e]
  by_cases q : (atKey xs (.tup ks)).isSome = true
  · rw [if_pos q, if_pos q]
    clear q
    induction r with
    | nil => exact .nil
    | @cons p x ps xs z _ ih =>
      refine .cons ?_ ih
      obtain ⟨y', z1, z2, z3, z4, z5, z6⟩ := z
      show NE D φ H (if MV.beq p.1 v then (p.1, w) else p) (putAt (.tup ks) u x)
      unfold putAt
      rw [beq_toK _ _ _ _ z1 e, ← NestedKey.decide_eq]
      by_cases q : x.1 = .tup ks
      · rw [if_pos (by simpa using q), if_pos q]
        exact ⟨y, z1, z2, z3, z4, ry, wy⟩
      · rw [if_neg (by simpa using q), if_neg q]
        exact ⟨y', z1, z2, z3, z4, z5, z6⟩
  · rw [if_neg q, if_neg q]
    clear q
    induction r with
    | nil => exact .cons ⟨y, e, ⟨ks, rfl⟩, hd, vb, ry, wy⟩ .nil
    | cons z _ ih => exact .cons z ih
theorem dput_length (kvs : List (MV × MV)) (k v : MV) : (dput kvs k v).length ≤ kvs.length + 1 := by
  unfold dput
  split <;> simp
theorem dput_ne (kvs : List (MV × MV)) (k v : MV) : dput kvs k v ≠ [] := by
  unfold dput
  split
  · rename_i e
    intro q
    rw [List.map_eq_nil_iff] at q
    subst q
    simp at e
  · simp
/-- the raw dict at its address -/
theorem dX_of (I : Inv X pins σ H s) {kvs : List (MV × MV)} {xs : List (NestedKey × Addr × Value)} {a : Addr} (e : H a = some (.ext (dX (dm X ca) a xs))) (nd : (xs.map (·.1)).Nodup) (r : Paired (NE (dm X ca) φ H) kvs xs) :
    s.heap.DictOfH (nestedKind X.prog X.w) a xs := by
  obtain ⟨⟨o, es, ep, h1, h2, h3, h4⟩, _⟩ := (show ObjOk X.prog X.w H s.heap a (.ext (dX (dm X ca) a xs)) from I.hok a _ e)
  refine ⟨o, es, ep, h1, h2, h3, h4, ?_, nd⟩
  clear h4 nd e
  rename_i hst
  clear hst
  induction r with
  | nil => intro x hx; cases hx
  | @cons p x ps xs z _ ih =>
    intro x' hx
    rcases List.mem_cons.mp hx with rfl | hx
    · obtain ⟨y, z1, _, z3, z4, _⟩ := z
      exact ⟨nest_ok I _ _ _ _ z4 rfl z1, z3⟩
    · exact ih x' hx
theorem dE_of (I : Inv X pins σ H s) {a : Addr} (e : H a = some (.dK [])) : (a == sysModules) = false ∧ s.heap.DictOfH (nestedKind X.prog X.w) a [] := by
  obtain ⟨_, hd, vs, rel, o, es, ep, h1, h2, h3, h4, h5, h6⟩ := dk_of I.hok e
  cases rel
  refine ⟨hd, o, es, ep, h1, h2, h3, ?_, fun x hx => (by cases hx), List.nodup_nil⟩
  cases q : es.toList with
  | nil => rfl
  | cons x xs =>
    rw [q] at h5
    cases h5
theorem room_n {n : Nat} {A : Around} (hr : Room n A) : (nestedKind X.prog X.w).room A.in1 := by
  show A.units + 1 + 8 < cLine
  have := hr.un
  omega
/-- an entry is stored -/
theorem dX_write (I : Inv X pins σ H s) {a : Addr} {kvs : List (MV × MV)} {xs : List (NestedKey × Addr × Value)} {h' : Heap} {t' : Nat} (mu : Mut (H a)) (hs : Heap.SameBut a s.heap h') (d : h'.DictOfH (nestedKind X.prog X.w) a xs) :
    Inv X pins σ (upd H a (.ext (dX (dm X ca) a xs))) { s with heap := h', toks := t' } := by
  obtain ⟨o, es, ep, h1, h2, h3, h4, h5, h6⟩ := d
  refine d_write I mu hs ⟨o, h1⟩ ⟨⟨o, es, ep, h1, h2, h3, h4⟩, ⟨o, h1⟩, fun g1 g2 ⟨o', es', ep', k1, k2, k3, k4⟩ k => ⟨o', es', ep', k _ k1, k2, k3, k4⟩⟩

/-! ### the four doors -/
theorem din_ok {n : Nat} (hr : Room n X.A) {r : Nat} {k : MV} {x y : V} {v u : Value} {kvs : List (MV × MV)} {neg : Bool} {Q : VK} (I : Inv X pins σ H s) (rp : Rep (dm X ca) φ h H) (q : h[r]? = some (.dic kvs)) (rv : RelV y v) (ru : RelV x u) (vk : VR (dm X ca) φ H k y)
    (vr : VR (dm X ca) φ H (.ref r) x) (f : kfit kvs k = true) (hQ : Q (.bl (if neg then !(dget kvs k).isSome else (dget kvs k).isSome)) H) : wpAny (model X.prog X.w) X.A (compareOp (if neg then .NotIn else .In) v u) (EP X pins σ Q) X.xe s := by
  cases vr with
  | @ref _ a ha =>
    cases ru
    have hu : X.A.units + 1 < cLine := by have := hr.un; omega
    rcases DR.cases (rp.get ha q) f with ⟨q', ks, rfl, e, pr⟩ | ⟨ks, tk, hd, e⟩
    · have ry : y = kV q' := by cases q' <;> (cases vk; rfl)
      subst ry
      have iso : (dget kvs (kM q')).isSome = (valV ks q').isSome := by
        rcases KE1.get pr q' with ⟨a1, a2⟩ | ⟨v1, y1, a1, a2, _⟩ <;> (rw [a1, a2]; rfl)
      rw [iso] at hQ
      cases neg with
      | false => exact d_in hu I (DGet.k e) rv fun s' I' => ⟨.bl _, H, I', rfl, hQ⟩
      | true => exact d_notIn hu I (DGet.k e) rv fun s' I' => ⟨.bl _, H, I', rfl, hQ⟩
    · obtain ⟨b, rfl⟩ : ∃ b, y = .ref b := by
        cases k with
        | tup zs => cases vk; exact ⟨_, rfl⟩
        | _ => simp [toK] at tk
      cases rv
      have hk : (nestedKind X.prog X.w).is s.heap (.tup ks) b := ⟨nest_ok I _ _ _ _ vk rfl tk, hd⟩
      obtain ⟨hs, xs, dd, iso⟩ : (a == sysModules) = false ∧ ∃ xs, s.heap.DictOfH (nestedKind X.prog X.w) a xs ∧ (dget kvs k).isSome = (atKey xs (.tup ks)).isSome := by
        rcases e with ⟨rfl, e⟩ | ⟨xs, e, e2, e3, e4, e5, pr⟩
        · obtain ⟨g1, g2⟩ := dE_of I e
          exact ⟨g1, [], g2, rfl⟩
        · refine ⟨e2, xs, dX_of I e e3 pr, ?_⟩
          rcases NE.get pr tk with ⟨a1, a2⟩ | ⟨v1, y1, p1, a1, a2, _⟩ <;> (rw [a1, a2]; rfl)
      rw [iso] at hQ
      cases neg with
      | false => exact wpAny_in_heap (room_n hr) hk hs dd ⟨.bl _, H, I.tok _, rfl, hQ⟩
      | true =>
        show wpAny _ _ (do return Value.bool (!(← contains (.ref a) (.ref b)))) _ _ s
        exact wpAny_bind (wpAny_contains_heap (room_n hr) hk hs dd (wpAny_pure ⟨.bl _, H, I.tok _, rfl, hQ⟩))
theorem dgetI_ok {n : Nat} (hr : Room n X.A) {r : Nat} {k w : MV} {x y : V} {v u : Value} {kvs : List (MV × MV)} {Q : VK} (I : Inv X pins σ H s) (rp : Rep (dm X ca) φ h H) (q : h[r]? = some (.dic kvs)) (ru : RelV x u) (rv : RelV y v) (vr : VR (dm X ca) φ H (.ref r) x)
    (vk : VR (dm X ca) φ H k y) (f : kfit kvs k = true) (g : dget kvs k = some w) (hQ : ∀ z, VR (dm X ca) φ H w z → Q z H) : ∃ a, u = .ref a ∧ s.TypeIs (.ref a) "dict" ∧ wpAny (model X.prog X.w) X.A (getItem u v) (EP X pins σ Q) X.xe s := by
  cases vr with
  | @ref _ a ha =>
    cases ru
    have hu : X.A.units + 1 < cLine := by have := hr.un; omega
    refine ⟨a, rfl, ?_⟩
    rcases DR.cases (rp.get ha q) f with ⟨q', ks, rfl, e, pr⟩ | ⟨ks, tk, hd, e⟩
    · have ry : y = kV q' := by cases q' <;> (cases vk; rfl)
      subst ry
      obtain ⟨y1, a2, w1⟩ : ∃ y1, valV ks q' = some y1 ∧ VR (dm X ca) φ H w y1 := by
        rcases KE1.get pr q' with ⟨a1, a2⟩ | ⟨v1, y1, a1, a2, w1⟩
        · rw [a1] at g; cases g
        · rw [a1] at g; cases g; exact ⟨y1, a2, w1⟩
      have dg : DGet H a (kV q') (some y1) := a2 ▸ DGet.k e
      exact ⟨dict_typeIs I dg, d_getItem hu I dg rv fun w' s' I' r' => ⟨y1, H, I', r', hQ y1 w1⟩⟩
    · obtain ⟨b, rfl⟩ : ∃ b, y = .ref b := by
        cases k with
        | tup zs => cases vk; exact ⟨_, rfl⟩
        | _ => simp [toK] at tk
      cases rv
      have hk : (nestedKind X.prog X.w).is s.heap (.tup ks) b := ⟨nest_ok I _ _ _ _ vk rfl tk, hd⟩
      rcases e with ⟨rfl, e⟩ | ⟨xs, e, e2, e3, e4, e5, pr⟩
      · cases g
      · rcases NE.get pr tk with ⟨a1, a2⟩ | ⟨v1, y1, p1, a1, a2, r1, w1⟩
        · rw [a1] at g; cases g
        · rw [a1] at g; cases g
          have dd := dX_of I e e3 pr
          exact ⟨dd.typeIs, wpAny_getItem_heap (room_n hr) hk dd a2 ⟨y1, H, I.tok _, r1, hQ y1 w1⟩⟩
theorem dset_ok {n : Nat} (hr : Room n X.A) {r : Nat} {k w : MV} {x y z : V} {v u t : Value} {kvs : List (MV × MV)} {Q : Hp → Prop} (I : Inv X pins σ H s) (rp : Rep (dm X ca) φ h H) (q : h[r]? = some (.dic kvs)) (ru : RelV x u) (rv : RelV y v) (rt : RelV z t) (vr : VR (dm X ca) φ H (.ref r) x)
    (vk : VR (dm X ca) φ H k y) (vw : VR (dm X ca) φ H w z) (f : kfit kvs k = true) (hl : kvs.length < 1000000)
    (hQ : ∀ H', Ext (dm X ca) φ φ H H' → Rep (dm X ca) φ (h.set r (.dic (dput kvs k w))) H' → Q H') : wpAny (model X.prog X.w) X.A (setItem u v t) (fun _ s' => ∃ H', Inv X pins σ H' s' ∧ Q H') X.xe s := by
  cases vr with
  | @ref _ a ha =>
    cases ru
    have hu : X.A.units + 1 < cLine := by have := hr.un; omega
    have hz := sizeLine_eq
    rcases DR.cases (rp.get ha q) f with ⟨q', ks, rfl, e, pr⟩ | ⟨ks, tk, hd, e⟩
    · have ry : y = kV q' := by cases q' <;> (cases vk; rfl)
      subst ry
      have mu : Mut (H a) := by rw [e]; exact True.intro
      refine d_setItem hu I (DPut.k e (by rw [← Paired.length pr]; omega)) rv rt fun s' I' => ⟨_, I', hQ _ (Ext.mut ha mu) (rp.set ha mu (.inl ⟨_, upd_same, ?_⟩))⟩
      exact L2.Paired.mapP (KE1.put pr q' vw) fun _ _ z => ⟨z.1, z.2.mono (List.prefix_refl _) (TK.mut mu)⟩
    · obtain ⟨b, rfl⟩ : ∃ b, y = .ref b := by
        cases k with
        | tup zs => cases vk; exact ⟨_, rfl⟩
        | _ => simp [toK] at tk
      cases rv
      have hk : (nestedKind X.prog X.w).is s.heap (.tup ks) b := ⟨nest_ok I _ _ _ _ vk rfl tk, hd⟩
      obtain ⟨mu, hs, xs, dd, pr⟩ : Mut (H a) ∧ (a == sysModules) = false ∧ ∃ xs, s.heap.DictOfH (nestedKind X.prog X.w) a xs ∧ Paired (NE (dm X ca) φ H) kvs xs := by
        rcases e with ⟨rfl, e⟩ | ⟨xs, e, e2, e3, e4, e5, pr⟩
        · obtain ⟨g1, g2⟩ := dE_of I e
          exact ⟨by rw [e]; exact True.intro, g1, [], g2, .nil⟩
        · exact ⟨by rw [e]; exact True.intro, e2, xs, dX_of I e e3 pr, pr⟩
      refine wpAny_setItem_heap (hsz := by rw [← Paired.length pr]; omega) (room_n hr) hk dd fun h' dd' sb => ?_
      have I' := dX_write (ca := ca) (kvs := kvs) (t' := s.toks + (nestedKind X.prog X.w).draws (.tup ks)) I mu sb dd'
      refine ⟨_, I', hQ _ (Ext.mut ha mu) (rp.set ha mu (.inr ⟨_, upd_same, hs, ?_, dput_ne _ _ _, ?_, ?_⟩))⟩
      · obtain ⟨_, _, _, _, _, _, _, _, h6⟩ := dd'; exact h6
      · have := dput_length kvs k w; omega
      · exact L2.Paired.mapP (NE.put pr tk hd vk rt vw) fun _ _ ⟨y, z1, z2, z3, z4, z5, z6⟩ => ⟨y, z1, z2, z3, z4.mono (List.prefix_refl _) (TK.mut mu), z5, z6.mono (List.prefix_refl _) (TK.mut mu)⟩
end
end Mi

set_option Elab.async false
set_option linter.all false
set_option maxRecDepth 100000
set_option maxHeartbeats 2000000
/-! Snd4: truth, comparisons, places, slices, builtins, methods, what is walked. -/
namespace Mi
open PySem PySem.Spec PyProof.Rows L2
section
variable {X : Cx} {ca : Nat → Addr} {W : WX} {pins : List (Addr × Obj)} {s : Shared} {σ : St} {H : Hp} {φ : List Addr} {h : MH} {n : Nat}
theorem VRs.isEmpty {D : Dm} {xs : List MV} {ys : List V} (r : VRs D φ H xs ys) : xs.isEmpty = ys.isEmpty := by cases r <;> rfl
/-- an object at a place of the heap, by what is told of it -/
theorem obj_cases {r : Nat} {o : Option MO} (e : h[r]? = o) : h[r]? = o := e
theorem truth_ok {a : MV} {x : V} {v : Value} {b : Bool} {Q : Bool → Hp → Prop} (I : Inv X pins σ H s) (rv : RelV x v) (r : Rep (dm X ca) φ h H) (va : VR (dm X ca) φ H a x) (e : truth h a = some b) (q : Q b H) :
    wpAny (model X.prog X.w) X.A (truthy v) (TP X pins σ Q) X.xe s := by
  refine tru_ok pins s σ H x v Q I rv ⟨b, ?_, q⟩
  cases va with
  | non => exact (Option.some.inj e).symm
  | bl c => exact (Option.some.inj e).symm
  | int i => exact (Option.some.inj e).symm
  | str z =>
    unfold truth at e
    dsimp only at e
    split at e
    · rename_i hz
      exact ⟨line_eq ▸ hz, (Option.some.inj e).symm⟩
    · cases e
  | tup h1 h2 => exact .inr (.inl ⟨_, h1, by rw [← h2.isEmpty]; exact (Option.some.inj e).symm⟩)
  | ref hn =>
    unfold truth at e
    dsimp only at e
    split at e
    · rename_i xs q1
      obtain ⟨ys, g1, g2⟩ := r.sql hn (.inl q1)
      exact .inl ⟨ys, g1, by rw [← g2.isEmpty]; exact (Option.some.inj e).symm⟩
    · rename_i xs q1
      obtain ⟨ys, g1, g2⟩ := r.sql hn (.inr q1)
      exact .inl ⟨ys, g1, by rw [← g2.isEmpty]; exact (Option.some.inj e).symm⟩
    · cases e
  | cls c => cases e
  | ty t => cases e
theorem in_ok (hr : Room n X.A) {a b : MV} {x y : V} {v u : Value} {c neg : Bool} {Q : VK} (I : Inv X pins σ H s) (rv : RelV x v) (ru : RelV y u) (r : Rep (dm X ca) φ h H) (va : VR (dm X ca) φ H a x) (vb : VR (dm X ca) φ H b y)
    (e : inM h a b = some c) (q : Q (.bl (if neg then !c else c)) H) : wpAny (model X.prog X.w) X.A (compareOp (if neg then .NotIn else .In) v u) (EP X pins σ Q) X.xe s := by
  have hu := room64 hr
  cases b with
  | str z =>
    cases a with
    | str w =>
      cases va
      cases vb
      cases e
      cases neg with
      | false => exact op_in_str pins s σ H _ _ v u Q I rv ru ⟨w, z, rfl, rfl, q⟩
      | true => exact op_notin_str pins s σ H _ _ v u Q I rv ru ⟨w, z, rfl, rfl, q⟩
    | _ => cases e
  | tup zs =>
    unfold inM at e
    dsimp only at e
    split at e
    · rename_i d ds e1 e2
      split at e
      · rename_i hs
        cases e
        obtain ⟨s1, s2⟩ := Bool.and_eq_true_iff.mp hs
        obtain ⟨as, r1⟩ := Dp.reads I d x v (toD_ok r _ _ _ _ va e1) rv
        obtain ⟨bs, r2⟩ := Dp.reads I (.tuple ds) y u (toD_ok r _ _ _ _ vb e2) ru
        cases neg with
        | false => exact SeqAt.in_tuple_reads r2 r1 (SeqAt.canLay_of_shaped s2) (SeqAt.canLay_of_shaped s1) (room_in_shaped s1 hu) ⟨.bl _, H, I, rfl, q⟩
        | true => exact SeqAt.notIn_tuple_reads r2 r1 (SeqAt.canLay_of_shaped s2) (SeqAt.canLay_of_shaped s1) (room_in_shaped s1 hu) ⟨.bl _, H, I, rfl, q⟩
      · cases e
    · cases e
  | ref m =>
    unfold inM at e
    dsimp only at e
    split at e
    · rename_i kvs q1
      split at e
      · rename_i hf
        cases e
        exact din_ok hr I r q1 rv ru va vb hf q
      · cases e
    · rename_i xs q1
      split at e
      · rename_i d ds e1 e2
        split at e
        · rename_i hs
          cases e
          obtain ⟨s1, s2⟩ := Bool.and_eq_true_iff.mp hs
          cases neg with
          | false => exact op_inD hu pins s σ H _ _ v u Q I rv ru ⟨d, ds, toD_ok r _ _ _ _ va e1, toD_ok r _ _ _ _ vb e2, s1, s2, q⟩
          | true => exact op_notInD hu pins s σ H _ _ v u Q I rv ru ⟨d, ds, toD_ok r _ _ _ _ va e1, toD_ok r _ _ _ _ vb e2, s1, s2, q⟩
        · cases e
      · cases e
    · cases e
  | _ => cases e
theorem cmp_ok (hr : Room n X.A) {op : CmpOp} {a b : MV} {x y : V} {v u : Value} {c : Bool} {Q : VK} (I : Inv X pins σ H s) (rv : RelV x v) (ru : RelV y u) (r : Rep (dm X ca) φ h H) (va : VR (dm X ca) φ H a x) (vb : VR (dm X ca) φ H b y)
    (e : cmpM op a b h = some c) (q : Q (.bl c) H) : wpAny (model X.prog X.w) X.A (compareOp op v u) (EP X pins σ Q) X.xe s := by
  cases op with
  | Eq => exact eq_ok hr I rv ru r va vb e q
  | NotEq =>
    obtain ⟨d, e1, e2⟩ := Option.map_eq_some_iff.mp (show (eqM h a b).map (!·) = some c from e)
    subst e2
    exact ne_ok hr I rv ru r va vb e1 q
  | Lt =>
    cases va with
    | int i => cases vb with
      | int j => cases e; exact op_lt pins s σ H _ _ v u Q I rv ru ⟨i, j, rfl, rfl, q⟩
      | _ => cases e
    | _ => cases e
  | LtE =>
    cases va with
    | int i => cases vb with
      | int j => cases e; exact op_le pins s σ H _ _ v u Q I rv ru ⟨i, j, rfl, rfl, q⟩
      | _ => cases e
    | _ => cases e
  | Gt =>
    cases va with
    | int i => cases vb with
      | int j => cases e; exact op_gt pins s σ H _ _ v u Q I rv ru ⟨i, j, rfl, rfl, q⟩
      | _ => cases e
    | _ => cases e
  | GtE =>
    cases va with
    | int i => cases vb with
      | int j => cases e; exact op_ge pins s σ H _ _ v u Q I rv ru ⟨i, j, rfl, rfl, q⟩
      | _ => cases e
    | _ => cases e
  | In => exact in_ok (neg := false) hr I rv ru r va vb e q
  | NotIn =>
    obtain ⟨d, e1, e2⟩ := Option.map_eq_some_iff.mp (show (inM h a b).map (!·) = some c from e)
    subst e2
    exact in_ok (neg := true) hr I rv ru r va vb e1 q
  | Is =>
    cases vb with
    | non =>
      refine op_isN pins s σ H x .non v u Q I rv ru ⟨rfl, ?_⟩
      have : decide (x = .non) = c := by
        cases va <;> (cases e; rfl)
      rw [this]; exact q
    | bl b' => cases va with
      | bl a' => cases e; exact op_is_bl pins s σ H _ _ v u Q I rv ru ⟨a', b', rfl, rfl, q⟩
      | _ => cases e
    | _ => cases va <;> cases e
  | IsNot =>
    cases vb with
    | non =>
      refine op_notN pins s σ H x .non v u Q I rv ru ⟨rfl, ?_⟩
      have : (!decide (x = .non)) = c := by
        cases va <;> (cases e; rfl)
      rw [this]; exact q
    | bl b' => cases va with
      | bl a' => cases e; exact op_isnot_bl pins s σ H _ _ v u Q I rv ru ⟨a', b', rfl, rfl, q⟩
      | _ => cases e
    | _ => cases va <;> cases e

/-! ### places -/
theorem sub_ok (hr : Room n X.A) {value slice : Expr} {a b w : MV} {x y : V} {v u : Value} {Q : VK} (I : Inv X pins σ H s) (rv : RelV x v) (ru : RelV y u) (r : Rep (dm X ca) φ h H) (va : VR (dm X ca) φ H a x) (vb : VR (dm X ca) φ H b y)
    (e : subM a b h = some w) (q : ∀ z, VR (dm X ca) φ H w z → Q z H) (hs : subscripted slice false v u = operate [v, u] (getItem v u)) : wpAny (model X.prog X.w) X.A (subscriptTail value slice v u) (EP X pins σ Q) X.xe s := by
  cases a with
  | tup xs =>
    cases va with
    | tup h1 h2 => cases b with
      | int i =>
        cases vb
        obtain ⟨z, e1, e2⟩ := h2.atI (show L2.atI xs i = some w from e)
        exact ix_tup value slice pins s σ H _ _ v u Q I rv ru ⟨_, _, i, z, rfl, rfl, h1, e1, q z e2⟩ hs
      | _ => cases e
  | str z =>
    cases va
    cases b with
    | int i =>
      cases vb
      unfold subM at e
      dsimp only at e
      split at e
      · rename_i hz
        obtain ⟨c, e1, e2⟩ := Option.map_eq_some_iff.mp e
        subst e2
        exact ix_str value slice pins s σ H _ _ v u Q I rv ru ⟨z, i, c, rfl, rfl, line_eq ▸ hz, e1, q _ (.str _)⟩ hs
      · cases e
    | _ => cases e
  | ref m =>
    unfold subM at e
    dsimp only at e
    split at e
    · rename_i xs q1
      cases b with
      | int i =>
        cases vb
        cases va with
        | ref hm =>
          obtain ⟨ys, g1, g2⟩ := r.sql hm (.inl q1)
          obtain ⟨z, e1, e2⟩ := g2.atI e
          exact ix_list value slice pins s σ H _ _ v u Q I rv ru ⟨_, _, i, z, rfl, rfl, g1, e1, q z e2⟩ hs
      | _ => cases e
    · rename_i xs q1
      cases b with
      | int i =>
        cases vb
        cases va with
        | ref hm =>
          obtain ⟨ys, g1, g2⟩ := r.sql hm (.inr q1)
          obtain ⟨z, e1, e2⟩ := g2.atI e
          exact ix_list value slice pins s σ H _ _ v u Q I rv ru ⟨_, _, i, z, rfl, rfl, g1, e1, q z e2⟩ hs
      | _ => cases e
    · rename_i kvs q1
      split at e
      · rename_i hf
        obtain ⟨d, rfl, hT, hg⟩ := dgetI_ok hr I r q1 rv ru va vb hf e q
        unfold subscriptTail
        refine wpAny_bind ?_
        rw [getitemInPython_of_ne hT.not_modules]
        refine wpAny_bind (wpAny_specialOf hT PySem.F.slot_dict_getitem.lookup ?_)
        have fin : wpAny (model X.prog X.w) X.A (subscripted slice false (.ref d) u) (fun r s₃ => wpAny (model X.prog X.w) X.A (letTemporaryGo value (.ref d) r >>= fun _ => pure r) (EP X pins σ Q) X.xe s₃) X.xe s := by
          rw [hs]
          exact wpAny_operating (wpAny_mono hg (fun r s₃ h₃ => wpAny_bind (wpAny_letTemporaryGo (wpAny_pure h₃))) fun _ _ x => x)
        first
          | exact wpAny_pure (wpAny_bind fin)
          | exact wpAny_bind (wpAny_pure (wpAny_bind fin))
          | exact wpAny_bind fin
      · cases e
    · cases e
  | _ => cases e
/-- what a slice is -/
def rSl (K : PySem.W.Frag) : V → Option Int → Option Int → Hp → VK → Prop := fun x lo hi H Q => rSlL K x lo hi H Q ∨ (rSlA K x lo hi H Q ∨ rSlS x lo hi H Q)
theorem sl_all : SlR X (rSl X.K) := SlR.or sl_list (SlR.or sl_tupA sl_str)
theorem slc_rd {a : MV} {x : V} {lo hi : Option Int} {Q : VK} (r : Rep (dm X ca) φ h H) (va : VR (dm X ca) φ H a x) (f : Fin (dm X ca) W (VR (dm X ca)) σ φ H Q (slcM a lo hi h)) : rSl X.K x lo hi H Q := by
  cases va with
  | tup h1 h2 =>
    have e := h2.length
    refine .inr (.inl ⟨_, _, rfl, h1, fun ⟨w1, w2⟩ => ?_, fun _ p hp => f.newT r hp (h2.cut lo hi)⟩)
    refine f.ok0 r (.tup h1 ?_)
    unfold cutM
    rw [e, w1, w2, List.drop_zero, Nat.sub_zero, ← e, List.take_length]
    exact h2
  | str z =>
    unfold slcM at f
    dsimp only at f
    split at f
    · rename_i hz
      exact .inr (.inr ⟨z, rfl, line_eq ▸ hz, f.ok0 r (.str _)⟩)
    · exact f.elim
  | ref hm =>
    unfold slcM at f
    dsimp only at f
    split at f
    · rename_i xs q1
      obtain ⟨ys, g1, g2⟩ := r.lst hm q1
      exact .inl ⟨_, _, rfl, SqL.of g1, fun p hp => f.newL r hp (g2.cut lo hi)⟩
    · exact f.elim
  | _ => exact f.elim

/-! ### builtins -/
def Blt.val : Blt → Value
  | .len => .builtin "len" | .int => .type "int" | .isi => .builtin "isinstance" | .tuple => .type "tuple" | .list => .type "list" | .sum => .builtin "sum" | .all => .builtin "all" | .any => .builtin "any" | .max => .builtin "max" | .min => .builtin "min" | .abs => .builtin "abs"
theorem intsM_ok {D : Dm} : ∀ {vs : List MV} {xs : List V} {ns : List Int}, VRs D φ H vs xs → intsM vs = some ns → xs = ns.map V.int
  | [], _, _, r, e => by cases r; cases e; rfl
  | .int i :: vs, _, _, r, e => by
    cases r with
    | cons r1 r2 =>
      cases r1
      obtain ⟨ms, e1, e2⟩ := Option.map_eq_some_iff.mp (show (intsM vs).map (i :: ·) = _ from e)
      subst e2
      rw [intsM_ok r2 e1]
      rfl
  | .non :: _, _, _, _, e => by cases e
  | .bl _ :: _, _, _, _, e => by cases e
  | .str _ :: _, _, _, _, e => by cases e
  | .tup _ :: _, _, _, _, e => by cases e
  | .ref _ :: _, _, _, _, e => by cases e
  | .cls _ :: _, _, _, _, e => by cases e
  | .ty _ :: _, _, _, _, e => by cases e
theorem bolsM_ok {D : Dm} : ∀ {vs : List MV} {xs : List V} {ns : List Bool}, VRs D φ H vs xs → bolsM vs = some ns → xs = ns.map V.bl
  | [], _, _, r, e => by cases r; cases e; rfl
  | .bl i :: vs, _, _, r, e => by
    cases r with
    | cons r1 r2 =>
      cases r1
      obtain ⟨ms, e1, e2⟩ := Option.map_eq_some_iff.mp (show (bolsM vs).map (i :: ·) = _ from e)
      subst e2
      rw [bolsM_ok r2 e1]
      rfl
  | .non :: _, _, _, _, e => by cases e
  | .int _ :: _, _, _, _, e => by cases e
  | .str _ :: _, _, _, _, e => by cases e
  | .tup _ :: _, _, _, _, e => by cases e
  | .ref _ :: _, _, _, _, e => by cases e
  | .cls _ :: _, _, _, _, e => by cases e
  | .ty _ :: _, _, _, _, e => by cases e
theorem kit_tab (a b : Ty) : kitB a.nm b.nm = some (tyLe a b) := by
  cases a <;> cases b <;> decide +kernel
/-- what isinstance asks of a value of a built-in type -/
theorem kit_ok {a : MV} {x : V} {u : Value} {t : Ty} (I : Inv X pins σ H s) (rx : RelV x u) (r : Rep (dm X ca) φ h H) (va : VR (dm X ca) φ H a x) (e : tyM h a = some (.inl t)) :
    ∃ P : Heap → Prop, PySem.W.KitX X.K u (.type t.nm) P ∧ P s.heap ∧ u ≠ .builtin "__main__.__loader__#opaque" := by
  cases va with
  | non => cases e; exact kit_of I rx (.base .non)
  | bl b => cases e; exact kit_of I rx (.base (.bl b))
  | int i => cases e; exact kit_of I rx (.base (.int i))
  | str z => cases e; exact kit_of I rx (.base (.str z))
  | tup h1 h2 =>
    cases e
    cases (show u = Value.ref _ from rx)
    obtain ⟨_, _, ⟨o, g1, g2, _⟩, _⟩ := I.tuple h1
    exact ⟨_, PySem.W.kitx_tuple, ⟨o, g1, g2⟩, fun z => nomatch z⟩
  | ref hm =>
    unfold tyM at e
    dsimp only at e
    split at e
    · rename_i xs q1
      cases e
      obtain ⟨ys, g1, g2⟩ := r.lst hm q1
      exact kit_of I rx (.base (.lst g1))
    · rename_i xs q1
      cases e
      obtain ⟨o, ys, g1, g2⟩ := r.rol hm q1
      exact kit_of I rx (.base (.frz g1))
    · rename_i kvs q1
      cases e
      rcases r.get hm q1 with ⟨ks, g1, g2⟩ | ⟨xs, g1, _⟩
      · exact kit_of I rx (.base (.dK g1))
      · cases (show u = Value.ref _ from rx)
        obtain ⟨⟨o, es, ep, k1, k2, _⟩, _⟩ := (show ObjOk X.prog X.w H s.heap _ (.ext _) from I.hok _ _ g1)
        exact ⟨_, PySem.W.kitx_dict, ⟨o, k1, k2.1⟩, fun z => nomatch z⟩
    · cases e
    · cases e
  | cls c => cases e
  | ty c => cases e
theorem len_ok {a : MV} {x : V} {u : Value} {k : Nat} {Q : VK} (I : Inv X pins σ H s) (rx : RelV x u) (r : Rep (dm X ca) φ h H) (va : VR (dm X ca) φ H a x) (e : lenM h a = some k) (q : Q (.int k) H) :
    wpAny (model X.prog X.w) X.A (call (.builtin "len") [u]) (EP X pins σ Q) X.xe s := by
  cases va with
  | tup h1 h2 => cases e; exact call_len_seq pins s σ H _ _ Q I (.cons rx .nil) ⟨_, _, rfl, .inr h1, by rw [← h2.length]; exact q⟩
  | str z =>
    unfold lenM at e
    dsimp only at e
    split at e
    · rename_i hz
      cases e
      exact call_len_str pins s σ H _ _ Q I (.cons rx .nil) ⟨z, rfl, line_eq ▸ hz, q⟩
    · cases e
  | ref hm =>
    unfold lenM at e
    dsimp only at e
    split at e
    · rename_i xs q1
      cases e
      obtain ⟨ys, g1, g2⟩ := r.sql hm (.inl q1)
      exact call_len_seq pins s σ H _ _ Q I (.cons rx .nil) ⟨_, _, rfl, .inl g1, by rw [← g2.length]; exact q⟩
    · rename_i xs q1
      cases e
      obtain ⟨ys, g1, g2⟩ := r.sql hm (.inr q1)
      exact call_len_seq pins s σ H _ _ Q I (.cons rx .nil) ⟨_, _, rfl, .inl g1, by rw [← g2.length]; exact q⟩
    · rename_i kvs q1
      split at e
      · cases e
      · rename_i hk
        cases e
        cases (show u = Value.ref _ from rx)
        rcases r.get hm q1 with ⟨ks, g1, g2⟩ | ⟨xs, g1, g2, g3, g4, g5, g6⟩
        · exact d_len I (.inl g1) fun t s' I' => ⟨.int _, H, I', ⟨t, by rw [Paired.length g2]⟩, q⟩
        · exfalso
          cases g6 with
          | nil => exact g4 rfl
          | cons z zs =>
            obtain ⟨y, z1, ⟨ks, z2⟩, z3, _⟩ := z
            rw [z2] at z1 z3
            exact hk (by simp [dk, kk_toK z1 z3])
    · cases e
  | _ => cases e
theorem seq_ok {a : MV} {x : V} {xs : List MV} (r : Rep (dm X ca) φ h H) (va : VR (dm X ca) φ H a x) (e : seqM h a = some xs) : ∃ p ys, x = .ref p ∧ VRs (dm X ca) φ H xs ys ∧ (SqL X.K H p ys ∨ SqT X.K H p ys) := by
  cases va with
  | tup h1 h2 => cases e; exact ⟨_, _, rfl, h2, .inr h1⟩
  | ref hm =>
    unfold seqM at e
    dsimp only at e
    split at e
    · rename_i zs q1
      cases e
      obtain ⟨ys, g1, g2⟩ := r.sql hm (.inl q1)
      exact ⟨_, ys, rfl, g2, .inl g1⟩
    · rename_i zs q1
      cases e
      obtain ⟨ys, g1, g2⟩ := r.sql hm (.inr q1)
      exact ⟨_, ys, rfl, g2, .inl g1⟩
    · cases e
  | _ => cases e
theorem blt_ok {C : Cfg} (hc : X.calm = true) (hk : ∀ (t : Ty) j, j < C.cls.length → PySem.W.kitOne X.K (.type t.nm) (.ref (ca j)) = some false) {b : Blt} {as : List MV} {xs : List V} {us : List Value} {Q : VK} (I : Inv X pins σ H s) (rx : Vals xs us) (r : Rep (dm X ca) φ h H)
    (va : VRs (dm X ca) φ H as xs) (f : Fin (dm X ca) W (VR (dm X ca)) σ φ H Q (bltM C b as h)) : wpAny (model X.prog X.w) X.A (call b.val us) (EP X pins σ Q) X.xe s := by
  cases b with
  | len =>
    unfold bltM at f
    dsimp only at f
    split at f
    · rename_i a
      split at f
      · rename_i k e
        cases va with
        | cons v1 v2 =>
          cases v2
          cases rx with
          | cons r1 r2 =>
            cases r2
            exact len_ok I r1 r v1 e (f.ok0 r (.int _))
      · exact f.elim
    · exact f.elim
  | int =>
    unfold bltM at f
    dsimp only at f
    split at f
    · cases va with
      | cons v1 v2 =>
        cases v2
        cases v1
        exact call_int1 pins s σ H _ _ Q I rx (.inl ⟨_, rfl, f.ok0 r (.int _)⟩)
    · cases va with
      | cons v1 v2 =>
        cases v2
        cases v1
        exact call_int1 pins s σ H _ _ Q I rx (.inr ⟨_, rfl, f.ok0 r (.int _)⟩)
    · exact f.elim
  | isi =>
    unfold bltM at f
    dsimp only at f
    split at f
    · rename_i a c
      split at f
      · rename_i res e
        cases va with
        | cons v1 v2 => cases v2 with
          | cons v2 v3 =>
            cases v3
            cases rx with
            | cons r1 r2 => cases r2 with
              | cons r2 r3 =>
                cases r3
                unfold isiM at e
                split at e
                · rename_i t et
                  obtain ⟨P, Z, p, hx⟩ := kit_ok I r1 r v1 et
                  cases v2 with
                  | ty t2 =>
                    cases e
                    cases r2
                    exact PySem.W.kia_one Z I.kIn p (kit_ty (kit_tab t t2)) hx fun tk => ⟨.bl _, H, I.tok tk, rfl, f.ok0 r (.bl _)⟩
                  | cls j =>
                    dsimp only at e
                    split at e
                    · rename_i hj
                      cases e
                      cases r2
                      exact PySem.W.kia_one Z I.kIn p (hk t j hj) hx fun tk => ⟨.bl _, H, I.tok tk, rfl, f.ok0 r (.bl _)⟩
                    · cases e
                  | _ => cases e
                · rename_i k et
                  exfalso
                  cases v1 with
                  | ref hm =>
                    unfold tyM at et
                    dsimp only at et
                    split at et
                    · cases et
                    · cases et
                    · cases et
                    · rename_i c fs q1
                      exact r.get hm q1
                    · cases et
                  | _ => cases et
                · cases e
      · exact f.elim
    · exact f.elim
  | tuple =>
    unfold bltM at f
    dsimp only at f
    split at f
    · rename_i a
      split at f
      · rename_i zs e
        cases va with
        | cons v1 v2 =>
          cases v2
          obtain ⟨p, ys, rfl, w, hs⟩ := seq_ok r v1 e
          refine call_tuple_of pins s σ H _ _ Q I rx ⟨p, ys, rfl, ?_⟩
          rcases hs with hs | hs
          · exact .inl ⟨hs, fun l hl => f.newT r hl w⟩
          · exact .inr ⟨hs, f.ok0 r (.tup hs w)⟩
      · exact f.elim
    · exact f.elim
  | list =>
    unfold bltM at f
    dsimp only at f
    split at f
    · rename_i a
      split at f
      · rename_i zs e
        cases va with
        | cons v1 v2 =>
          cases v2
          obtain ⟨p, ys, rfl, w, hs⟩ := seq_ok r v1 e
          exact call_list_of pins s σ H _ _ Q I rx ⟨p, ys, rfl, hs, fun l hl => f.newL r hl w⟩
      · exact f.elim
    · exact f.elim
  | sum =>
    unfold bltM at f
    dsimp only at f
    split at f
    · split at f
      · rename_i zs q1
        split at f
        · rename_i ns e
          cases va with
          | cons v1 v2 =>
            cases v2
            cases v1 with
            | ref hm =>
              obtain ⟨ys, g1, g2⟩ := r.lst hm q1
              have := intsM_ok g2 e
              subst this
              exact cr_sum hc pins s σ H _ _ Q I rx ⟨_, ns, rfl, SqL.of g1, f.ok0 r (.int _)⟩
        · exact f.elim
      · exact f.elim
    · exact f.elim
  | all =>
    unfold bltM at f
    dsimp only at f
    split at f
    · split at f
      · rename_i zs q1
        split at f
        · rename_i ns e
          cases va with
          | cons v1 v2 =>
            cases v2
            cases v1 with
            | ref hm =>
              obtain ⟨ys, g1, g2⟩ := r.lst hm q1
              have := bolsM_ok g2 e
              subst this
              exact cr_all hc pins s σ H _ _ Q I rx ⟨_, ns, rfl, SqL.of g1, f.ok0 r (.bl _)⟩
        · exact f.elim
      · exact f.elim
    · exact f.elim
  | any =>
    unfold bltM at f
    dsimp only at f
    split at f
    · split at f
      · rename_i zs q1
        split at f
        · rename_i ns e
          cases va with
          | cons v1 v2 =>
            cases v2
            cases v1 with
            | ref hm =>
              obtain ⟨ys, g1, g2⟩ := r.lst hm q1
              have := bolsM_ok g2 e
              subst this
              exact cr_any hc pins s σ H _ _ Q I rx ⟨_, ns, rfl, SqL.of g1, f.ok0 r (.bl _)⟩
        · exact f.elim
      · exact f.elim
    · exact f.elim
  | max =>
    unfold bltM at f
    dsimp only at f
    split at f
    · cases va with
      | cons v1 v2 => cases v2 with
        | cons v2 v3 =>
          cases v3
          cases v1
          cases v2
          exact call_max2 hc pins s σ H _ _ Q I rx ⟨_, _, rfl, f.ok0 r (.int _)⟩
    · exact f.elim
  | min =>
    unfold bltM at f
    dsimp only at f
    split at f
    · cases va with
      | cons v1 v2 => cases v2 with
        | cons v2 v3 =>
          cases v3
          cases v1
          cases v2
          exact call_min2 hc pins s σ H _ _ Q I rx ⟨_, _, rfl, f.ok0 r (.int _)⟩
    · exact f.elim
  | abs =>
    unfold bltM at f
    dsimp only at f
    split at f
    · cases va with
      | cons v1 v2 =>
        cases v2
        cases v1
        exact call_abs pins s σ H _ _ Q I rx ⟨_, rfl, f.ok0 r (.int _)⟩
    · exact f.elim

/-! ### what is walked -/
theorem iter_ok {tg : Expr} {a : MV} {x : V} {v : Value} {J0 : Mi.It} {R : L2.It → Hp → Prop} (I1 : Inv X pins σ H s) (rv : RelV x v) (r : Rep (dm X ca) φ h H) (va : VR (dm X ca) φ H a x) (e : itV a h = some J0)
    (q : ∀ J, IR (dm X ca) φ H J0 J → R J H) : wpAny (model X.prog X.w) X.A (pyIter v) (PIE X pins σ tg R) X.xe s := by
  have lst : ∀ {p : Addr} {ys : List V}, SqL X.K H p ys → R (Itl X.K p) H → wpAny (model X.prog X.w) X.A (pyIter (.ref p)) (PIE X pins σ tg R) X.xe s := fun {p ys} hq q => by
    obtain ⟨its, rv, pl, hz⟩ := I1.list hq
    refine wpAny_pyIter_list pl.isList ?_
    refine ⟨s.heap.objs.size, [s.heap.objs.size], _, _, H, rfl, I1.kept (t' := s.toks) fun b o e => Heap.get?_push_of_some _ e, turn_list p _, ⟨_, Heap.get?_push_size _ rfl, rfl, rfl⟩, fun b hb => ?_, q⟩
    have e : b = s.heap.objs.size := by simpa using hb
    subst e
    exact I1.fpOk (Nat.le_refl _) (I1.hok.fresh (Nat.le_refl _))
  cases va with
  | @tup xs p ys h1 h2 =>
    cases e
    cases rv
    obtain ⟨its, rv, pl, hz⟩ := I1.tuple h1
    refine wpAny_pyIter_tuple (show s.heap.IsTuple p its.toArray from pl) ?_
    refine ⟨s.heap.objs.size, [s.heap.objs.size], _, _, H, rfl, I1.kept (t' := s.toks) fun b o e => Heap.get?_push_of_some _ e, turn_tuple p _, ⟨_, Heap.get?_push_size _ rfl, rfl, rfl⟩, fun b hb => ?_, q _ ⟨p, ys, h1, h2, rfl⟩⟩
    have e : b = s.heap.objs.size := by simpa using hb
    subst e
    exact I1.fpOk (Nat.le_refl _) (I1.hok.fresh (Nat.le_refl _))
  | ref hm =>
    cases rv
    unfold itV at e
    dsimp only at e
    split at e
    · rename_i xs q1
      cases e
      obtain ⟨ys, g1, g2⟩ := r.sql hm (.inl q1)
      exact lst g1 (q _ ⟨_, hm, rfl⟩)
    · rename_i xs q1
      cases e
      obtain ⟨ys, g1, g2⟩ := r.sql hm (.inr q1)
      exact lst g1 (q _ ⟨_, hm, rfl⟩)
    · cases e
  | str x =>
    cases e
    obtain ⟨t, rfl⟩ := rv
    have q := q _ rfl
    cases ha : x.cps.all (· < 128)
    · exact wpAny_pyIter_wide ha (pi_one (tk := s.toks) I1 _ (turn_str _ x t "str_iterator" (.inr rfl)) ⟨_, Heap.get?_push_size _ rfl, rfl, rfl⟩ q)
    · exact wpAny_pyIter_ascii ha (pi_one (tk := s.toks) I1 _ (turn_str _ x t "str_ascii_iterator" (.inl rfl)) ⟨_, Heap.get?_push_size _ rfl, rfl, rfl⟩ q)
  | _ => cases e
end
end Mi

set_option Elab.async false
set_option linter.all false
set_option maxRecDepth 100000
set_option maxHeartbeats 2000000
/-! Snd5: the text is looked at; expressions run as ours do. -/
namespace Mi
open PySem PySem.Spec PyProof.Rows L2

/-! ### the text's forms -/
def nostar : Expr → Bool
  | .Starred .. => false
  | _ => true
def nosup : Expr → Bool
  | .Call (.Name _ _) [] [] _ => false
  | _ => true
def noset : Expr → Bool
  | .Set .. => false
  | _ => true
def noslice : Expr → Bool
  | .Slice .. => false
  | _ => true
def nocomp : Expr → Bool
  | .ListComp .. => false
  | .SetComp .. => false
  | .DictComp .. => false
  | _ => true
def notup : Expr → Bool
  | .Tuple .. => false
  | .List .. => false
  | _ => true
theorem star_cons {e : Expr} {es : List Expr} {env : PySem.Env} (h : nostar e = true) : starEach (e :: es) env = (false, eval e env) :: starEach es env := by
  cases e <;> first | rfl | cases h
theorem plain_back {pos : Pos} {env : PySem.Env} : ∀ {es : List Expr}, es.all nostar = true → (backTo pos (starEach es env)).any (·.1) = false
  | [], _ => rfl
  | e :: es, h => by
    rw [List.all_cons, Bool.and_eq_true] at h
    rw [star_cons h.1]
    show (false || (backTo pos (starEach es env)).any (·.1)) = false
    rw [plain_back h.2]
    rfl
theorem plain_all {pos : Pos} {env : PySem.Env} : ∀ {es : List Expr}, es.all nostar = true → (backTo pos (starEach es env)).all (fun x => !x.1) = true
  | [], _ => rfl
  | e :: es, h => by
    rw [List.all_cons, Bool.and_eq_true] at h
    rw [star_cons h.1]
    show (true && (backTo pos (starEach es env)).all (fun x => !x.1)) = true
    rw [plain_all h.2]
    rfl
theorem base_of {o : Expr} {m : Str} {env : PySem.Env} (h : nosup o = true) : attributeBase o m env (eval o env) = eval o env := by
  cases o with
  | Call f args kws pos =>
    cases f with
    | Name id p =>
      cases args with
      | nil => cases kws with
        | nil => cases h
        | cons _ _ => rfl
      | cons _ _ => rfl
    | _ => rfl
  | _ => rfl
theorem set_of {e : Expr} {env : PySem.Env} {x : Value} (h : noset e = true) : foldedSetIterable e env x = pure x := by
  cases e <;> first | rfl | cases h
theorem ix_of {e : Expr} (h : noslice e = true) : PlainIx e := by
  intro o i
  cases e <;> first | rfl | cases h

structure Sc where
  N : List Str
  sc : Scope
  blk : Option Scope
def Sc.vis (G : Sc) (i : Nat) (x : Str) : Bool := decide (G.N[i]? = some x) && ((match G.sc.names.lookup x with
  | some .local => true
  | some .cell => true
  | some .free => true
  | _ => false) && (!(x == ("__debug__" : Str)) && !(x == ("__classdict__" : Str))))
def Sc.loc (G : Sc) (i : Nat) (x : Str) : Bool := decide (G.N[i]? = some x) && (match G.sc.names.lookup x with
  | some .local => true
  | some .cell => (match G.blk with
    | none => true
    | some b => b.names.lookup x == some .cell)
  | _ => false)
def Sc.gl (G : Sc) (x : Str) : Bool := decide (G.sc.names.lookup x = some .globalImplicit) && (!(x == ("__debug__" : Str)) && !(x == ("__name__" : Str)))
def MT.slots : MT → List Nat
  | .name i => [i]
  | .tup ts => go ts
  | .sub _ _ => []
where go : MTs → List Nat
  | .nil => []
  | .cons t ts => MT.slots t ++ go ts
/-! ### the look at the text -/
mutual
theorem MV.eq_of : ∀ {v w : MV}, MV.beq v w = true → v = w
  | .non, .non, _ => rfl
  | .bl _, .bl _, h => by rw [eq_of_beq (show (_ == _) = true from h)]
  | .int _, .int _, h => by rw [eq_of_beq (show (_ == _) = true from h)]
  | .str _, .str _, h => by rw [eq_of_beq (show (_ == _) = true from h)]
  | .tup _, .tup _, h => by rw [MV.eqs_of (show MV.beqs _ _ = true from h)]
  | .ref _, .ref _, h => by rw [eq_of_beq (show (_ == _) = true from h)]
  | .cls _, .cls _, h => by rw [eq_of_beq (show (_ == _) = true from h)]
  | .ty _, .ty _, h => by rw [eq_of_beq (show (_ == _) = true from h)]
theorem MV.eqs_of : ∀ {v w : List MV}, MV.beqs v w = true → v = w
  | [], [], _ => rfl
  | _ :: _, _ :: _, h => by
    obtain ⟨h1, h2⟩ := Bool.and_eq_true_iff.mp (show (MV.beq _ _ && MV.beqs _ _) = true from h)
    rw [MV.eq_of h1, MV.eqs_of h2]
end
def Prog.isGlb (P : Prog) (x : Str) (v : MV) : Bool := P.glb.any fun p => decide (p.1 = x) && MV.beq p.2 v
def Prog.isFn (P : Prog) (f : Nat) (x : Str) : Bool := match P.fns[f]? with
  | some F => decide (F.at_ = (x, none))
  | none => false
mutual
def chkE (P : Prog) (G : Sc) : ME → Expr → Bool
  | .var i, e => match e with
    | .Name x _ => G.vis i x
    | _ => false
  | .non, e => match e with
    | .Constant .none _ _ => true
    | _ => false
  | .bl b, e => match e with
    | .Constant (.bool c) _ _ => decide (b = c)
    | _ => false
  | .int i, e => match e with
    | .Constant (.int j) _ _ => decide (i = j)
    | _ => false
  | .str x, e => match e with
    | .Constant (.str y) _ _ => decide (x = y)
    | _ => false
  | .glb x v, e => match e with
    | .Name y _ => decide (x = y) && (G.gl y && P.isGlb y v)
    | _ => false
  | .bin op a b, e => match e with
    | .BinOp l o r _ => decide (op = o) && (chkE P G a l && chkE P G b r)
    | _ => false
  | .neg a, e => match e with
    | .UnaryOp .USub x _ => chkE P G a x
    | _ => false
  | .cmp op a b, e => match e with
    | .Compare l [o] [r] _ => decide (op = o) && (chkE P G a l && (chkE P G b r && noset r))
    | _ => false
  | .chn o1 o2 a b c, e => match e with
    | .Compare l [p1, p2] [m, r] _ => decide (o1 = p1) && (decide (o2 = p2) && (chkE P G a l && (chkE P G b m && (chkE P G c r && (noset m && noset r)))))
    | _ => false
  | .bop op es, e => match e with
    | .BoolOp o xs _ => decide (op = o) && chkEs P G es xs
    | _ => false
  | .not a, e => match e with
    | .UnaryOp .Not x _ => chkE P G a x
    | _ => false
  | .ifx c a b, e => match e with
    | .IfExp t x y _ => chkE P G c t && (chkE P G a x && chkE P G b y)
    | _ => false
  | .tup es, e => match e with
    | .Tuple xs _ _ => chkEs P G es xs
    | _ => false
  | .lst es, e => match e with
    | .List xs _ => chkEs P G es xs
    | _ => false
  | .dic0, e => match e with
    | .Dict [] [] _ => true
    | _ => false
  | .dic1 k v, e => match e with
    | .Dict [some x] [y] _ => chkE P G k x && chkE P G v y
    | _ => false
  | .sub a i, e => match e with
    | .Subscript x y _ => chkE P G a x && (chkE P G i y && noslice y)
    | _ => false
  | .slc a lo hi, e => match e with
    | .Subscript x (.Slice l u none _) _ => chkE P G a x && (chkO P G lo l && chkO P G hi u)
    | _ => false
  | .call x f es, e => match e with
    | .Call (.Name y _) xs [] _ => decide (x = y) && (G.gl y && (P.isFn f y && chkEs P G es xs))
    | _ => false
  | .blt b es, e => match e with
    | .Call (.Name y _) xs [] _ => decide (b.nm = y) && (G.gl y && (P.free.contains y && (chkEs P G es xs && !xs.isEmpty)))
    | _ => false
  | .mth a m es, e => match e with
    | .Call (.Attribute o y ap) xs [] pos => decide (m.nm = y) && (chkE P G a o && (chkEs P G es xs && (!xs.isEmpty && (nosup o && ((ap.endLine == pos.line) && decide (xs.length < 29))))))
    | _ => false
  | .lc a t it ifs own, e => match e with
    | .ListComp x [⟨tg, iter, cs, k⟩] scope _ => decide (k = 0) && (blkC G.N G.sc scope own && (chkI P G it iter && (noset iter &&
        (chkT P ⟨G.N, relS scope G.sc, some scope⟩ t tg && ((t.slots.all fun j => (own.map (·.2)).contains j) && (chkEs P ⟨G.N, relS scope G.sc, some scope⟩ ifs cs && (decide (cs.length ≤ 1) && chkE P ⟨G.N, relS scope G.sc, some scope⟩ a x)))))))
    | _ => false
def chkO (P : Prog) (G : Sc) : MOp → Option Expr → Bool
  | .none, e => match e with
    | none => true
    | _ => false
  | .some a, e => match e with
    | some x => chkE P G a x
    | _ => false
def chkEs (P : Prog) (G : Sc) : MEs → List Expr → Bool
  | .nil, xs => match xs with
    | [] => true
    | _ => false
  | .cons a as, xs => match xs with
    | x :: xs => nostar x && (chkE P G a x && chkEs P G as xs)
    | _ => false
def chkI (P : Prog) (G : Sc) : MI → Expr → Bool
  | .val a, e => chkE P G a e
  | .rng es, e => match e with
    | .Call (.Name y _) xs [] _ => decide (y = ("range" : Str)) && (G.gl y && (P.free.contains y && (chkEs P G es xs && (decide (1 ≤ xs.length) && decide (xs.length ≤ 2)))))
    | _ => false
def chkT (P : Prog) (G : Sc) : MT → Expr → Bool
  | .name i, e => match e with
    | .Name x _ => G.loc i x
    | _ => false
  | .tup ts, e => match e with
    | .Tuple xs _ _ => chkTs P G ts xs
    | _ => false
  | .sub a i, e => match e with
    | .Subscript x y _ => chkE P G a x && (chkE P G i y && noslice y)
    | _ => false
def chkTs (P : Prog) (G : Sc) : MTs → List Expr → Bool
  | .nil, xs => match xs with
    | [] => true
    | _ => false
  | .cons t ts, xs => match xs with
    | x :: xs => nostar x && (chkT P G t x && chkTs P G ts xs)
    | _ => false
end
def isTupE : Expr → Bool
  | .Tuple .. => true
  | .List .. => true
  | _ => false
mutual
def chkS (P : Prog) (G : Sc) : MS → Stmt → Bool
  | .exp a, s => match s with
    | .Expr e _ => chkE P G a e && nocomp e
    | _ => false
  | .doc, s => match s with
    | .Expr (.Constant (.str _) _ _) _ => true
    | _ => false
  | .ret a, s => match s with
    | .Return (some e) _ => chkE P G a e
    | _ => false
  | .retN, s => match s with
    | .Return none _ => true
    | _ => false
  | .pass, s => match s with
    | .Pass _ => true
    | _ => false
  | .brk, s => match s with
    | .Break _ => true
    | _ => false
  | .cnt, s => match s with
    | .Continue _ => true
    | _ => false
  | .asg t a, s => match s with
    | .Assign [tg] e _ => chkT P G t tg && (chkE P G a e && (nostar tg && (notup tg || notup e)))
    | _ => false
  | .aug i op a, s => match s with
    | .AugAssign (.Name x _) o e _ => decide (op = o) && (G.loc i x && chkE P G a e)
    | _ => false
  | .ifs c a b, s => match s with
    | .If t xs ys _ => chkE P G c t && (chkSs P G a xs && chkSs P G b ys)
    | _ => false
  | .whl c b, s => match s with
    | .While t xs [] _ => chkE P G c t && chkSs P G b xs
    | _ => false
  | .for_ t it b, s => match s with
    | .For tg iter xs [] _ => chkT P G t tg && (chkI P G it iter && (noset iter && chkSs P G b xs))
    | _ => false
def chkSs (P : Prog) (G : Sc) : MSs → List Stmt → Bool
  | .nil, ss => match ss with
    | [] => true
    | _ => false
  | .cons a as, ss => match ss with
    | s :: ss => chkS P G a s && chkSs P G as ss
    | _ => false
end

/-! ### where the text runs -/
structure Lk where
  P : Program
  w : World
  K : PySem.W.Frag
  mg : Str → Option Value
  base : Heap
  ca : Nat → Addr
  fa : Nat → Addr
  fd : Nat → FuncData
abbrev Lk.dm (L : Lk) : Dm := ⟨L.P, L.w, L.K, L.ca⟩
/-- what a call promises -/
def spM (L : Lk) (P : Prog) (n f : Nat) : Sp := fun vs H Q E => ∃ φ h args, Rep L.dm φ h H ∧ VRs L.dm φ H args vs ∧ (∃ F, P.fns[f]? = some F ∧ vs.length = F.params.length) ∧ Fin L.dm (fun c d _ H' => E c d H') (VR L.dm) [] φ H Q (callM P n f args h)
def GlbOk (L : Lk) (x : Str) (v : MV) : Prop := (∃ t, v = .ty t ∧ L.mg x = none ∧ bootBuiltins x = some (.type t.nm)) ∨ ∃ u y, L.mg x = some u ∧ RelV y u ∧ ∀ (D : Dm) φ H, D.ca = L.ca → VR D φ H v y
structure LkOk (L : Lk) (P : Prog) (n : Nat) : Prop where
  glb : ∀ p ∈ P.glb, GlbOk L p.1 p.2
  free : ∀ x ∈ P.free, L.mg x = none
  fn : ∀ f F, P.fns[f]? = some F → FnOk L.P L.w L.K L.mg L.base (L2.CX L.P L.w) (2 * n) (L.fa f) (L.fd f) F.params (spM L P n f) ∧ PySem.W.keepIn L.K (.ref (L.fa f)) = true ∧ Binds L.K (L.fd f) F.params [] ∧ (∀ x, F.at_ = (x, none) → L.mg x = some (.ref (L.fa f)))
  kit : ∀ (t : Ty) j, j < P.cls.length → PySem.W.kitOne L.K (.type t.nm) (.ref (L.ca j)) = some false
structure XOk (L : Lk) (P : Prog) (G : Sc) (n : Nat) (X : Cx) : Prop where
  prog : X.prog = L.P
  w : X.w = L.w
  K : X.K = L.K
  mg : X.mg = L.mg
  base : X.base = L.base
  N : X.N = G.N
  nd : X.N.Nodup
  sc : X.env.scope = G.sc
  room : Room (2 * n + 1) X.A
  calm : X.calm = true
  fn : ∀ x, X.fn x = (match G.blk with
    | none => true
    | some b => b.names.lookup x == some .cell)
  ok : LkOk L P n
section
variable {L : Lk} {P : Prog} {G : Sc} {n : Nat} {X : Cx}
theorem XOk.dm (k : XOk L P G n X) : dm X L.ca = L.dm := by
  unfold Mi.dm Lk.dm
  rw [k.prog, k.w, k.K]
theorem XOk.vis (k : XOk L P G n X) {i : Nat} {x : Str} (h : G.vis i x = true) : X.N[i]? = some x ∧ Vis X.env.scope x ∧ (x == ("__debug__" : Str)) = false ∧ (x == ("__classdict__" : Str)) = false := by
  unfold Sc.vis at h
  simp only [Bool.and_eq_true, decide_eq_true_eq, Bool.not_eq_true'] at h
  obtain ⟨h1, h2, h3, h4⟩ := h
  refine ⟨by rw [k.N]; exact h1, ?_, h3, h4⟩
  rw [k.sc]
  split at h2
  · rename_i e; exact .inl e
  · rename_i e; exact .inr (.inl e)
  · rename_i e; exact .inr (.inr e)
  · cases h2
theorem XOk.loc (k : XOk L P G n X) {i : Nat} {x : Str} (h : G.loc i x = true) : X.N[i]? = some x ∧ L2.Loc X.env.scope x ∧ (X.fn x = true ∨ X.env.scope.names.lookup x = some .local) := by
  unfold Sc.loc at h
  simp only [Bool.and_eq_true, decide_eq_true_eq] at h
  obtain ⟨h1, h2⟩ := h
  refine ⟨by rw [k.N]; exact h1, ?_⟩
  unfold L2.Loc
  rw [k.sc, k.fn]
  split at h2
  · rename_i e; exact ⟨.inl e, .inr e⟩
  · rename_i e; exact ⟨.inr e, .inl h2⟩
  · cases h2
theorem XOk.gl (k : XOk L P G n X) {x : Str} (h : G.gl x = true) : Gl X x ∧ (x == ("__debug__" : Str)) = false ∧ x ≠ "__name__" := by
  unfold Sc.gl at h
  simp only [Bool.and_eq_true, decide_eq_true_eq, Bool.not_eq_true'] at h
  obtain ⟨h1, h2, h3⟩ := h
  refine ⟨?_, h2, fun e => by rw [e] at h3; simp at h3⟩
  show X.env.scope.names.lookup x = _
  rw [k.sc]
  exact h1
end
end Mi

set_option Elab.async false
set_option linter.all false
set_option maxRecDepth 100000
set_option maxHeartbeats 2000000
/-! Snd6: each kind of expression, from its parts. -/
namespace Mi
open PySem PySem.Spec PyProof.Rows L2

def SE (L : Lk) (P : Prog) (G : Sc) (n : Nat) (ex : Expr) (m : Env → MH → Out MV) : Prop := ∀ (X : Cx) (W : WX), XOk L P G n X → Takes X W → PE X ex (tE (dm X L.ca) W m)
def ST (L : Lk) (P : Prog) (G : Sc) (n : Nat) (ex : Expr) (m : Env → MH → Out Bool) : Prop := ∀ (X : Cx) (W : WX), XOk L P G n X → Takes X W → PT X ex (tT (dm X L.ca) W m)
def SA (L : Lk) (P : Prog) (G : Sc) (n : Nat) (es : List Expr) (m : Env → MH → Out (List MV)) : Prop := ∀ (X : Cx) (W : WX), XOk L P G n X → Takes X W → PA X es (tA (dm X L.ca) W m)
def SO (L : Lk) (P : Prog) (G : Sc) (n : Nat) (e : Option Expr) (m : Env → MH → Out (Option Int)) : Prop := ∀ (X : Cx) (W : WX), XOk L P G n X → Takes X W → PO X e (tO (dm X L.ca) W m)
def SI (L : Lk) (P : Prog) (G : Sc) (n : Nat) (e : Expr) (m : Env → MH → Out Mi.It) : Prop := ∀ (X : Cx) (W : WX) (tg : Expr), XOk L P G n X → Takes X W → PI X tg e (tI (dm X L.ca) W m)
def testM (m : Env → MH → Out MV) : Env → MH → Out Bool := fun ρ h => (m ρ h).bind fun v h1 => .of h1 (truth h1 v)

section
variable {L : Lk} {P : Prog} {G : Sc} {n : Nat} {ex l r : Expr} {pos : Pos} {m ma mb mc : Env → MH → Out MV}
theorem se_var {i : Nat} {x : Str} (hv : G.vis i x = true) : SE L P G n (.Name x pos) (fun ρ h => .of h (slotO ρ i)) := fun X W k tk => ⟨fun pins s σ H Q I ⟨φ, h0, ρ, rp, er, f⟩ => by
  obtain ⟨h1, h2, h3, h4⟩ := k.vis hv
  cases e : slotO ρ i with
  | none =>
    have f : Fin (dm X L.ca) W (VR (dm X L.ca)) σ φ H Q (.of h0 (slotO ρ i)) := f
    rw [e] at f; exact f.elim
  | some v =>
    have f : Fin (dm X L.ca) W (VR (dm X L.ca)) σ φ H Q (.of h0 (slotO ρ i)) := f
    rw [e] at f
    have e' : ρ[i]? = some (some v) := by
      unfold slotO at e
      split at e
      · rename_i q; cases e; exact q
      · cases e
    obtain ⟨y, hy, w⟩ := er.at_ i v e'
    exact (pe_var h1 h2 h3 h4).run pins s σ H Q I ⟨y, hy, f.ok0 rp w⟩⟩
theorem se_cst {c : Const} {j : Nat} {v : MV} (hp : ∀ X, ∃ y, PE X (.Constant c j pos) (tC y) ∧ ∀ D φ H, VR D φ H v y) : SE L P G n (.Constant c j pos) (fun _ h => .ok v h) := fun X W k tk => ⟨fun pins s σ H Q I ⟨φ, h0, ρ, rp, er, f⟩ => by
  obtain ⟨y, h1, h2⟩ := hp X
  exact h1.run pins s σ H Q I (f.ok0 rp (h2 _ _ _))⟩
theorem se_glb {x : Str} {v : MV} (hg : G.gl x = true) (hv : P.isGlb x v = true) : SE L P G n (.Name x pos) (fun _ h => .ok v h) := fun X W k tk => ⟨fun pins s σ H Q I ⟨φ, h0, ρ, rp, er, f⟩ => by
  obtain ⟨h1, h2, h3⟩ := k.gl hg
  obtain ⟨p, hp, e⟩ := List.any_eq_true.mp hv
  obtain ⟨e1, e2⟩ := Bool.and_eq_true_iff.mp e
  have e1 : p.1 = x := of_decide_eq_true e1
  have e2 : p.2 = v := MV.eq_of e2
  have g := k.ok.glb p hp
  rw [e1, e2] at g
  rcases g with ⟨t, rfl, g1, g2⟩ | ⟨u, y, g1, g2, g3⟩
  · exact (pe_bltn (v := .ty t.nm) h1 (by rw [k.mg]; exact g1) g2 rfl h3 h2).run pins s σ H Q I (f.ok0 rp (.ty t))
  · exact (pe_glob h1 (by rw [k.mg]; exact g1) g2 h2).run pins s σ H Q I (f.ok0 rp (g3 _ _ _ rfl))⟩
theorem se_bin {op : Operator} (ha : SE L P G n l ma) (hb : SE L P G n r mb) : SE L P G n (.BinOp l op r pos) (fun ρ h => (ma ρ h).bind fun v h1 => (mb ρ h1).bind fun w h2 => binM op v w h2) := fun X W k tk => ⟨fun pins s σ H Q I ⟨φ, h0, ρ, rp, er, f⟩ => by
  refine wpAny_BinOp (thn ((ha X W k tk).run pins s σ H _ I ⟨φ, h0, ρ, rp, er, f.bind⟩) fun v s1 ⟨x, H1, I1, r1, φ1, h1, a, p1, rp1, w1, f1⟩ => ?_)
  refine thn ((hb X W k tk).run pins s1 σ H1 _ I1 ⟨φ1, h1, ρ, rp1, er.ext p1, f1.bind⟩) fun u s2 ⟨y, H2, I2, r2, φ2, h2, b, p2, rp2, w2, f2⟩ => ?_
  exact bin_ok I2 r1 r2 rp2 (w1.ext p2) w2 f2⟩
theorem se_neg (ha : SE L P G n l ma) : SE L P G n (.UnaryOp .USub l pos) (fun ρ h => (ma ρ h).bind fun v h1 => match v with
    | .int i => .ok (.int (-i)) h1
    | _ => .bad) := fun X W k tk => ⟨fun pins s σ H Q I ⟨φ, h0, ρ, rp, er, f⟩ => by
  refine UnaryOp_ (thn ((ha X W k tk).run pins s σ H _ I ⟨φ, h0, ρ, rp, er, f.bind⟩) fun v s1 ⟨x, H1, I1, r1, φ1, h1, a, p1, rp1, w1, f1⟩ => ?_)
  cases w1 with
  | int i => exact un_neg pins s1 σ H1 _ v Q I1 r1 ⟨i, rfl, f1.ok0 rp1 (.int _)⟩
  | _ => exact f1.elim⟩
theorem mark_of {op : CmpOp} {r : Expr} (h : noset r = true) : behindInMarks op r = false := by
  cases r <;> first | rfl | cases h
theorem of_fin {X : Cx} {W : WX} {α β : Type} {R : List Addr → Hp → α → β → Prop} {D : Dm} {σ : St} {φ : List Addr} {h : MH} {H : Hp} {Q : β → Hp → Prop} {o : Option α} (f : Fin D W R σ φ H Q (Out.of h o)) : ∃ v, o = some v ∧ Fin D W R σ φ H Q (.ok v h) := by
  cases o with
  | none => exact f.elim
  | some v => exact ⟨v, rfl, f⟩
theorem se_cmp {op : CmpOp} (hs : noset r = true) (ha : SE L P G n l ma) (hb : SE L P G n r mb) : SE L P G n (.Compare l [op] [r] pos) (fun ρ h => (ma ρ h).bind fun v h1 => (mb ρ h1).bind fun w h2 => .of h2 ((cmpM op v w h2).map .bl)) := fun X W k tk => ⟨fun pins s σ H Q I ⟨φ, h0, ρ, rp, er, f⟩ => by
  refine wpAny_Compare1 (thn ((ha X W k tk).run pins s σ H _ I ⟨φ, h0, ρ, rp, er, f.bind⟩) fun v s1 ⟨x, H1, I1, r1, φ1, h1, a, p1, rp1, w1, f1⟩ => ?_) (mark_of hs)
  refine thn ((hb X W k tk).run pins s1 σ H1 _ I1 ⟨φ1, h1, ρ, rp1, er.ext p1, f1.bind⟩) fun u s2 ⟨y, H2, I2, r2, φ2, h2, b, p2, rp2, w2, f2⟩ => ?_
  obtain ⟨z, e, f3⟩ := of_fin (X := X) f2
  obtain ⟨c, e1, rfl⟩ := Option.map_eq_some_iff.mp e
  exact cmp_ok k.room I2 r1 r2 rp2 (w1.ext p2) w2 e1 (f3.ok0 rp2 (.bl _))⟩
theorem st_cmp {op : CmpOp} (hs : noset r = true) (ha : SE L P G n l ma) (hb : SE L P G n r mb) : ST L P G n (.Compare l [op] [r] pos) (testM fun ρ h => (ma ρ h).bind fun v h1 => (mb ρ h1).bind fun w h2 => .of h2 ((cmpM op v w h2).map .bl)) := fun X W k tk => ⟨fun pins s σ H Q I ⟨φ, h0, ρ, rp, er, f⟩ => by
  have f := Fin.bind (S := VR (dm X L.ca)) (show Fin (dm X L.ca) W _ σ φ H Q (Out.bind (Out.bind _ _) _) from f)
  refine wpAny_isTrue_Compare1 (thn ((ha X W k tk).run pins s σ H _ I ⟨φ, h0, ρ, rp, er, f.bind⟩) fun v s1 ⟨x, H1, I1, r1, φ1, h1, a, p1, rp1, w1, f1⟩ => ?_) (mark_of hs)
  refine thn ((hb X W k tk).run pins s1 σ H1 _ I1 ⟨φ1, h1, ρ, rp1, er.ext p1, f1.bind⟩) fun u s2 ⟨y, H2, I2, r2, φ2, h2, b, p2, rp2, w2, f2⟩ => ?_
  obtain ⟨z, e, f3⟩ := of_fin (X := X) f2
  obtain ⟨c, e1, rfl⟩ := Option.map_eq_some_iff.mp e
  obtain ⟨φ3, h3, a3, p3, rp3, w3, f4⟩ := f3.ok0 rp2 (.bl c)
  cases w3
  refine thn (cmp_ok (Q := fun z H' => z = .bl c ∧ H' = H2) k.room I2 r1 r2 rp2 (w1.ext p2) w2 e1 ⟨rfl, rfl⟩) fun cv s3 ⟨z, H3, I3, r3, ez, eH⟩ => ?_
  subst ez eH
  obtain rfl : cv = Value.bool c := r3
  exact wpAny_truthy_bool ⟨_, I3, f4.ok0 rp3 rfl⟩⟩
/-- a test that is a value's truth -/
theorem st_plain (he : ∀ env whole, isTrue ex env whole = (do let v ← whole; standAt ex.pos; holding [v] (truthy v))) (ha : SE L P G n ex m) : ST L P G n ex (testM m) := fun X W k tk => ⟨fun pins s σ H Q I ⟨φ, h0, ρ, rp, er, f⟩ => by
  have f := Fin.bind (S := VR (dm X L.ca)) (show Fin (dm X L.ca) W _ σ φ H Q (Out.bind _ _) from f)
  refine isTrue_plain (thn ((ha X W k tk).run pins s σ H _ I ⟨φ, h0, ρ, rp, er, f⟩) fun v s1 ⟨x, H1, I1, r1, φ1, h1, a, p1, rp1, w1, f1⟩ => ?_) (he _ _)
  obtain ⟨c, e, f3⟩ := of_fin (X := X) f1
  exact truth_ok I1 r1 rp1 w1 e (f3.ok0 rp1 rfl)⟩
theorem se_not (ha : SE L P G n l ma) : SE L P G n (.UnaryOp .Not l pos) (fun ρ h => (ma ρ h).bind fun v h1 => .of h1 ((truth h1 v).map fun b => .bl (!b))) := fun X W k tk => ⟨fun pins s σ H Q I ⟨φ, h0, ρ, rp, er, f⟩ => by
  refine UnaryOp_ (thn ((ha X W k tk).run pins s σ H _ I ⟨φ, h0, ρ, rp, er, f.bind⟩) fun v s1 ⟨x, H1, I1, r1, φ1, h1, a, p1, rp1, w1, f1⟩ => ?_)
  obtain ⟨z, e, f3⟩ := of_fin (X := X) f1
  obtain ⟨c, e1, rfl⟩ := Option.map_eq_some_iff.mp e
  exact not_of (thn (truth_ok (Q := fun c H2 => Q (.bl (!c)) H2) I1 r1 rp1 w1 e1 (f3.ok0 rp1 (.bl _))) fun c s2 ⟨H2, I2, q2⟩ => ⟨.bl (!c), H2, I2, rfl, q2⟩)⟩
theorem Out.bind_bind {α β γ : Type} (o : Out α) (f : α → MH → Out β) (g : β → MH → Out γ) : (o.bind f).bind g = o.bind fun a h => (f a h).bind g := by
  cases o <;> rfl
theorem st_not (ha : ST L P G n l (testM ma)) : ST L P G n (.UnaryOp .Not l pos) (testM fun ρ h => (ma ρ h).bind fun v h1 => .of h1 ((truth h1 v).map fun b => .bl (!b))) := fun X W k tk => ⟨fun pins s σ H Q I ⟨φ, h0, ρ, rp, er, f⟩ => by
  have e : (testM fun ρ h => (ma ρ h).bind fun v h1 => .of h1 ((truth h1 v).map fun b => .bl (!b))) ρ h0 = (testM ma ρ h0).bind fun b h1 => .ok (!b) h1 := by
    unfold testM
    dsimp only
    rw [Out.bind_bind, Out.bind_bind]
    congr 1
    funext v h1
    cases truth h1 v <;> rfl
  have f : Fin (dm X L.ca) W _ σ φ H Q ((testM fun ρ h => (ma ρ h).bind fun v h1 => .of h1 ((truth h1 v).map fun b => .bl (!b))) ρ h0) := f
  rw [e] at f
  refine isTrue_not (thn ((ha X W k tk).run pins s σ H _ I ⟨φ, h0, ρ, rp, er, f.bind⟩) fun c s1 ⟨H1, I1, φ1, h1, a, p1, rp1, w1, f1⟩ => ?_)
  have w1 : a = c := w1
  subst w1
  exact ⟨H1, I1, f1.ok0 rp1 rfl⟩⟩
theorem se_ifx {t a b : Expr} (hc : ST L P G n t (testM mc)) (ha : SE L P G n a ma) (hb : SE L P G n b mb) : SE L P G n (.IfExp t a b pos) (fun ρ h => (mc ρ h).bind fun v h1 => match truth h1 v with
    | some true => ma ρ h1
    | some false => mb ρ h1
    | none => .bad) := fun X W k tk => ⟨fun pins s σ H Q I ⟨φ, h0, ρ, rp, er, f⟩ => by
  have e : ((mc ρ h0).bind fun v h1 => match truth h1 v with
    | some true => ma ρ h1
    | some false => mb ρ h1
    | none => .bad) = (testM mc ρ h0).bind fun c h1 => if c then ma ρ h1 else mb ρ h1 := by
    unfold testM
    rw [Out.bind_bind]
    congr 1
    funext v h1
    cases truth h1 v with
    | none => rfl
    | some c => cases c <;> rfl
  have f : Fin (dm X L.ca) W _ σ φ H Q ((mc ρ h0).bind fun v h1 => match truth h1 v with
    | some true => ma ρ h1
    | some false => mb ρ h1
    | none => .bad) := f
  rw [e] at f
  refine wpAny_IfExp (thn ((hc X W k tk).run pins s σ H _ I ⟨φ, h0, ρ, rp, er, f.bind⟩) fun c s1 ⟨H1, I1, φ1, h1, a, p1, rp1, w1, f1⟩ => ?_)
  have w1 : a = c := w1
  subst w1
  cases a with
  | true => exact (ha X W k tk).run pins s1 σ H1 Q I1 ⟨φ1, h1, ρ, rp1, er.ext p1, f1⟩
  | false => exact (hb X W k tk).run pins s1 σ H1 Q I1 ⟨φ1, h1, ρ, rp1, er.ext p1, f1⟩⟩
theorem st_ifx {t a b : Expr} (hc : ST L P G n t (testM mc)) (ha : ST L P G n a (testM ma)) (hb : ST L P G n b (testM mb)) : ST L P G n (.IfExp t a b pos) (testM fun ρ h => (mc ρ h).bind fun v h1 => match truth h1 v with
    | some true => ma ρ h1
    | some false => mb ρ h1
    | none => .bad) := fun X W k tk => ⟨fun pins s σ H Q I ⟨φ, h0, ρ, rp, er, f⟩ => by
  have e : (testM (fun ρ h => (mc ρ h).bind fun v h1 => match truth h1 v with
    | some true => ma ρ h1
    | some false => mb ρ h1
    | none => .bad)) ρ h0 = (testM mc ρ h0).bind fun c h1 => if c then testM ma ρ h1 else testM mb ρ h1 := by
    unfold testM
    dsimp only
    rw [Out.bind_bind, Out.bind_bind]
    congr 1
    funext v h1
    cases truth h1 v with
    | none => rfl
    | some c => cases c <;> rfl
  have f : Fin (dm X L.ca) W _ σ φ H Q ((testM (fun ρ h => (mc ρ h).bind fun v h1 => match truth h1 v with
    | some true => ma ρ h1
    | some false => mb ρ h1
    | none => .bad)) ρ h0) := f
  rw [e] at f
  refine isTrue_IfExp (thn ((hc X W k tk).run pins s σ H _ I ⟨φ, h0, ρ, rp, er, f.bind⟩) fun c s1 ⟨H1, I1, φ1, h1, a, p1, rp1, w1, f1⟩ => ?_)
  have w1 : a = c := w1
  subst w1
  cases a with
  | true => exact (ha X W k tk).run pins s1 σ H1 Q I1 ⟨φ1, h1, ρ, rp1, er.ext p1, f1⟩
  | false => exact (hb X W k tk).run pins s1 σ H1 Q I1 ⟨φ1, h1, ρ, rp1, er.ext p1, f1⟩⟩
end
end Mi

set_option Elab.async false
set_option linter.all false
set_option maxRecDepth 100000
set_option maxHeartbeats 2000000
/-! Snd7: chains, and and or, displays, places, slices, calls, methods. -/
namespace Mi
open PySem PySem.Spec PyProof.Rows L2
section
variable {L : Lk} {P : Prog} {G : Sc} {n : Nat} {ex l r : Expr} {pos : Pos} {m ma mb mc : Env → MH → Out MV}
def chnM (o1 o2 : CmpOp) (ma mb mc : Env → MH → Out MV) : Env → MH → Out MV := fun ρ h => (ma ρ h).bind fun v h1 => (mb ρ h1).bind fun w h2 => match cmpM o1 v w h2 with
    | some true => (mc ρ h2).bind fun z h3 => .of h3 ((cmpM o2 w z h3).map .bl)
    | some false => .ok (.bl false) h2
    | none => .bad
theorem se_chn {o1 o2 : CmpOp} {c : Expr} (h1 : noset r = true) (h2 : noset c = true) (ha : SE L P G n l ma) (hb : SE L P G n r mb) (hc : SE L P G n c mc) : SE L P G n (.Compare l [o1, o2] [r, c] pos) (chnM o1 o2 ma mb mc) := fun X W k tk => ⟨fun pins s σ H Q I ⟨φ, h0, ρ, rp, er, f⟩ => by
  have f : Fin (dm X L.ca) W (VR (dm X L.ca)) σ φ H Q (Out.bind _ _) := f
  refine Compare_chain (thn ((ha X W k tk).run pins s σ H _ I ⟨φ, h0, ρ, rp, er, f.bind⟩) fun v s1 ⟨x, H1, I1, r1, φ1, h1, a, p1, rp1, w1, f1⟩ => chain_link (thn ((hb X W k tk).run pins s1 σ H1 _ I1 ⟨φ1, h1, ρ, rp1, er.ext p1, f1.bind⟩) fun u s2 ⟨y, H2, I2, r2, φ2, h2, b, p2, rp2, w2, f2⟩ => ?_)) (mark_of h2)
  dsimp only at f2
  cases e : cmpM o1 a b h2 with
  | none => rw [e] at f2; exact f2.elim
  | some d =>
    rw [e] at f2
    refine thn (cmp_ok (Q := fun z H' => z = .bl d ∧ H' = H2) k.room I2 r1 r2 rp2 (w1.ext p2) w2 e ⟨rfl, rfl⟩) fun cv s3 ⟨z, H3, I3, r3, ez, eH⟩ => ?_
    subst ez eH
    obtain rfl : cv = Value.bool d := r3
    refine wpAny_truthy_bool ?_
    cases d with
    | false => exact ite_ff ⟨.bl false, _, I3, rfl, f2.ok0 rp2 (.bl _)⟩
    | true =>
      refine ite_tt (chain_last (thn ((hc X W k tk).run pins s3 σ _ _ I3 ⟨φ2, h2, ρ, rp2, (er.ext p1).ext p2, Fin.bind f2⟩) fun w' s4 ⟨z', H4, I4, r4, φ3, h3, c', p3, rp3, w3, f3⟩ => ?_))
      obtain ⟨z, e, f4⟩ := of_fin (X := X) f3
      obtain ⟨c, e1, rfl⟩ := Option.map_eq_some_iff.mp e
      exact cmp_ok k.room I4 r2 r4 rp3 (w2.ext p3) w3 e1 (f4.ok0 rp3 (.bl _))⟩
theorem st_chn {o1 o2 : CmpOp} {c : Expr} (h1 : noset r = true) (h2 : noset c = true) (ha : SE L P G n l ma) (hb : SE L P G n r mb) (hc : SE L P G n c mc) : ST L P G n (.Compare l [o1, o2] [r, c] pos) (testM (chnM o1 o2 ma mb mc)) := fun X W k tk => ⟨fun pins s σ H Q I ⟨φ, h0, ρ, rp, er, f⟩ => by
  have f := Fin.bind (S := VR (dm X L.ca)) (show Fin (dm X L.ca) W _ σ φ H Q (Out.bind (Out.bind _ _) _) from f)
  refine isTrue_chain (thn ((ha X W k tk).run pins s σ H _ I ⟨φ, h0, ρ, rp, er, f.bind⟩) fun v s1 ⟨x, H1, I1, r1, φ1, h1, a, p1, rp1, w1, f1⟩ => test_link (thn ((hb X W k tk).run pins s1 σ H1 _ I1 ⟨φ1, h1, ρ, rp1, er.ext p1, f1.bind⟩) fun u s2 ⟨y, H2, I2, r2, φ2, h2, b, p2, rp2, w2, f2⟩ => ?_)) (mark_of h2)
  dsimp only at f2
  cases e : cmpM o1 a b h2 with
  | none => rw [e] at f2; exact f2.elim
  | some d =>
    rw [e] at f2
    refine thn (cmp_ok (Q := fun z H' => z = .bl d ∧ H' = H2) k.room I2 r1 r2 rp2 (w1.ext p2) w2 e ⟨rfl, rfl⟩) fun cv s3 ⟨z, H3, I3, r3, ez, eH⟩ => ?_
    subst ez eH
    obtain rfl : cv = Value.bool d := r3
    refine wpAny_truthy_bool ?_
    cases d with
    | false =>
      obtain ⟨φ3, h3, a3, p3, rp3, w3, f4⟩ := f2.ok0 rp2 (.bl false)
      cases w3
      exact ite_ff ⟨_, I3, f4.ok0 rp3 rfl⟩
    | true =>
      refine ite_tt (test_last (thn ((hc X W k tk).run pins s3 σ _ _ I3 ⟨φ2, h2, ρ, rp2, (er.ext p1).ext p2, Fin.bind f2⟩) fun w' s4 ⟨z', H4, I4, r4, φ3, h3, c', p3, rp3, w3, f3⟩ => ?_))
      obtain ⟨z, e, f4⟩ := of_fin (X := X) f3
      obtain ⟨c, e1, rfl⟩ := Option.map_eq_some_iff.mp e
      obtain ⟨φ5, h5, a5, p5, rp5, w5, f5⟩ := f4.ok0 rp3 (.bl c)
      cases w5
      refine thn (cmp_ok (Q := fun z H' => z = .bl c ∧ H' = H4) k.room I4 r2 r4 rp3 (w2.ext p3) w3 e1 ⟨rfl, rfl⟩) fun cv s3 ⟨z, H3, I3, r3, ez, eH⟩ => ?_
      subst ez eH
      obtain rfl : cv = Value.bool c := r3
      exact wpAny_truthy_bool ⟨_, I3, f5.ok0 rp5 rfl⟩⟩

/-! ### and, or -/
def bopM (op : BoolOp) (ma mb : Env → MH → Out MV) : Env → MH → Out MV := fun ρ h => (ma ρ h).bind fun v h1 => match op, truth h1 v with
    | _, none => .bad
    | .And, some false => .ok v h1
    | .Or, some true => .ok v h1
    | _, _ => mb ρ h1
theorem se_b1 {op : BoolOp} (ha : SE L P G n l ma) : SE L P G n (.BoolOp op [l] pos) ma := fun X W k tk => ⟨fun pins s σ H Q I h => BoolOp_one ((ha X W k tk).run pins s σ H Q I h)⟩
theorem se_bop {op : BoolOp} {b : Expr} {rest : List Expr} (ha : SE L P G n l ma) (hb : SE L P G n (.BoolOp op (b :: rest) pos) mb) : SE L P G n (.BoolOp op (l :: b :: rest) pos) (bopM op ma mb) := fun X W k tk => ⟨fun pins s σ H Q I ⟨φ, h0, ρ, rp, er, f⟩ => by
  have f : Fin (dm X L.ca) W (VR (dm X L.ca)) σ φ H Q (Out.bind _ _) := f
  cases op with
  | And =>
    refine BoolOp_and (thn ((ha X W k tk).run pins s σ H _ I ⟨φ, h0, ρ, rp, er, f.bind⟩) fun v s1 ⟨x, H1, I1, r1, φ1, h1, a, p1, rp1, w1, f1⟩ => ?_)
    dsimp only at f1
    cases e : truth h1 a with
    | none => rw [e] at f1; exact f1.elim
    | some c =>
      rw [e] at f1
      refine thn (truth_ok (Q := fun c' H2 => c' = c ∧ H2 = H1) I1 r1 rp1 w1 e ⟨rfl, rfl⟩) fun c' s2 ⟨H2, I2, e1, e2⟩ => ?_
      subst e1 e2
      cases c' with
      | true => exact (hb X W k tk).run pins s2 σ _ Q I2 ⟨φ1, h1, ρ, rp1, er.ext p1, f1⟩
      | false => exact ⟨x, _, I2, r1, f1.ok0 rp1 w1⟩
  | Or =>
    refine BoolOp_or (thn ((ha X W k tk).run pins s σ H _ I ⟨φ, h0, ρ, rp, er, f.bind⟩) fun v s1 ⟨x, H1, I1, r1, φ1, h1, a, p1, rp1, w1, f1⟩ => ?_)
    dsimp only at f1
    cases e : truth h1 a with
    | none => rw [e] at f1; exact f1.elim
    | some c =>
      rw [e] at f1
      refine thn (truth_ok (Q := fun c' H2 => c' = c ∧ H2 = H1) I1 r1 rp1 w1 e ⟨rfl, rfl⟩) fun c' s2 ⟨H2, I2, e1, e2⟩ => ?_
      subst e1 e2
      cases c' with
      | true => exact ⟨x, _, I2, r1, f1.ok0 rp1 w1⟩
      | false => exact (hb X W k tk).run pins s2 σ _ Q I2 ⟨φ1, h1, ρ, rp1, er.ext p1, f1⟩⟩
def SW (L : Lk) (P : Prog) (G : Sc) (n : Nat) (ex : Expr) (m : Env → MH → Out Bool) : Prop := ∀ (X : Cx) (W : WX), XOk L P G n X → Takes X W → PW X ex (tT (dm X L.ca) W m)
theorem sw_b1 {op : BoolOp} (ha : ST L P G n l (testM ma)) : SW L P G n (.BoolOp op [l] pos) (testM ma) := fun X W k tk => by
  cases op with
  | And => exact pw_and1 (ha X W k tk)
  | Or => exact pw_or1 (ha X W k tk)
theorem sw_bop {op : BoolOp} {b : Expr} {rest : List Expr} (ha : ST L P G n l (testM ma)) (hb : SW L P G n (.BoolOp op (b :: rest) pos) (testM mb)) : SW L P G n (.BoolOp op (l :: b :: rest) pos) (testM (bopM op ma mb)) := fun X W k tk => ⟨fun wh pins s σ H Q I ⟨φ, h0, ρ, rp, er, f⟩ => by
  have e : testM (bopM op ma mb) ρ h0 = (testM ma ρ h0).bind fun c h1 => match op, c with
    | .And, false => .ok false h1
    | .Or, true => .ok true h1
    | _, _ => testM mb ρ h1 := by
    unfold testM bopM
    rw [Out.bind_bind, Out.bind_bind]
    congr 1
    funext v h1
    cases q : truth h1 v with
    | none => cases op <;> rfl
    | some c => cases op <;> cases c <;> first | rfl | (show Out.of h1 (truth h1 v) = _; rw [q]; rfl)
  have f : Fin (dm X L.ca) W _ σ φ H Q (testM (bopM op ma mb) ρ h0) := f
  rw [e] at f
  cases op with
  | And =>
    refine isTrue_and (thn ((ha X W k tk).run pins s σ H _ I ⟨φ, h0, ρ, rp, er, f.bind⟩) fun c s1 ⟨H1, I1, φ1, h1, a, p1, rp1, w1, f1⟩ => ?_)
    have w1 : a = c := w1
    subst w1
    cases a with
    | true => exact (hb X W k tk).run wh pins s1 σ H1 Q I1 ⟨φ1, h1, ρ, rp1, er.ext p1, f1⟩
    | false => exact ⟨H1, I1, f1.ok0 rp1 rfl⟩
  | Or =>
    refine isTrue_or (thn ((ha X W k tk).run pins s σ H _ I ⟨φ, h0, ρ, rp, er, f.bind⟩) fun c s1 ⟨H1, I1, φ1, h1, a, p1, rp1, w1, f1⟩ => ?_)
    have w1 : a = c := w1
    subst w1
    cases a with
    | true => exact ⟨H1, I1, f1.ok0 rp1 rfl⟩
    | false => exact (hb X W k tk).run wh pins s1 σ H1 Q I1 ⟨φ1, h1, ρ, rp1, er.ext p1, f1⟩⟩
theorem sw_st (h : SW L P G n ex (testM m)) : ST L P G n ex (testM m) := fun X W k tk => (h X W k tk).pt
theorem se_bad (h : ∀ ρ h0, m ρ h0 = .bad) : SE L P G n ex m := fun X W k tk => ⟨fun pins s σ H Q I ⟨φ, h0, ρ, rp, er, f⟩ => by
  rw [h] at f; exact f.elim⟩
theorem sw_bad (h : ∀ ρ h0, m ρ h0 = .bad) : SW L P G n ex (testM m) := fun X W k tk => ⟨fun wh pins s σ H Q I ⟨φ, h0, ρ, rp, er, f⟩ => by
  unfold testM at f
  rw [h] at f; exact f.elim⟩

/-! ### arguments, displays -/
variable {es : List Expr} {mm : Env → MH → Out (List MV)}
theorem sa_nil : SA L P G n [] (fun _ h => .ok [] h) := fun X W k tk => ⟨fun ps pins s σ H Q I ⟨φ, h0, ρ, rp, er, f⟩ => pa_nil.run ps pins s σ H Q I (f.ok0 rp .nil)⟩
theorem sa_cons (hs : nostar l = true) (ha : SE L P G n l ma) (hr : SA L P G n es mm) : SA L P G n (l :: es) (fun ρ h => (ma ρ h).bind fun v h1 => (mm ρ h1).bind fun vs h2 => .ok (v :: vs) h2) := fun X W k tk => ⟨fun ps pins s σ H Q I ⟨φ, h0, ρ, rp, er, f⟩ => by
  refine (pa_cons (ha X W k tk) (hr X W k tk) (star_cons hs)).run ps pins s σ H Q I ⟨φ, h0, ρ, rp, er, (Fin.bind f).imp fun x H1 ⟨φ1, h1, a, p1, rp1, w1, f1⟩ => ⟨φ1, h1, ρ, rp1, er.ext p1, (Fin.bind f1).imp fun xs H2 ⟨φ2, h2, as, p2, rp2, w2, f2⟩ => ?_⟩⟩
  exact f2.ok0 rp2 (.cons (w1.ext p2) w2)⟩
theorem se_tup {k1 : Nat} (ha : SA L P G n es mm) : SE L P G n (.Tuple es k1 pos) (fun ρ h => (mm ρ h).bind fun vs h1 => if vs.length ≤ line then .ok (.tup vs) h1 else .bad) := fun X W k tk => ⟨fun pins s σ H Q I ⟨φ, h0, ρ, rp, er, f⟩ => by
  refine (pe_tup (ha X W k tk)).run pins s σ H Q I ⟨φ, h0, ρ, rp, er, (Fin.bind f).imp fun xs H1 ⟨φ1, h1, as, p1, rp1, w1, f1⟩ => ?_⟩
  dsimp only at f1
  by_cases hz : as.length ≤ line
  · rw [if_pos hz] at f1
    exact ⟨by rw [← w1.length, ← line_eq]; exact hz, fun p hp => f1.newT rp1 hp w1⟩
  · rw [if_neg hz] at f1; exact f1.elim⟩
theorem se_lst (ha : SA L P G n es mm) : SE L P G n (.List es pos) (fun ρ h => (mm ρ h).bind fun vs h1 => if vs.length ≤ line then alloc (.lst vs) h1 else .bad) := fun X W k tk => ⟨fun pins s σ H Q I ⟨φ, h0, ρ, rp, er, f⟩ => by
  refine (pe_lst (ha X W k tk)).run pins s σ H Q I ⟨φ, h0, ρ, rp, er, (Fin.bind f).imp fun xs H1 ⟨φ1, h1, as, p1, rp1, w1, f1⟩ => ?_⟩
  dsimp only at f1
  by_cases hz : as.length ≤ line
  · rw [if_pos hz] at f1
    exact ⟨by rw [← w1.length, ← line_eq]; exact hz, fun p hp => f1.newL rp1 hp w1⟩
  · rw [if_neg hz] at f1; exact f1.elim⟩
/-! ### places -/
theorem se_sub (hs : noslice r = true) (ha : SE L P G n l ma) (hb : SE L P G n r mb) : SE L P G n (.Subscript l r pos) (fun ρ h => (ma ρ h).bind fun v h1 => (mb ρ h1).bind fun w h2 => .of h2 (subM v w h2)) := fun X W k tk => ⟨fun pins s σ H Q I ⟨φ, h0, ρ, rp, er, f⟩ => by
  refine Subscript_ (thn ((ha X W k tk).run pins s σ H _ I ⟨φ, h0, ρ, rp, er, f.bind⟩) fun v s1 ⟨x, H1, I1, r1, φ1, h1, a, p1, rp1, w1, f1⟩ => ?_)
  refine thn ((hb X W k tk).run pins s1 σ H1 _ I1 ⟨φ1, h1, ρ, rp1, er.ext p1, f1.bind⟩) fun u s2 ⟨y, H2, I2, r2, φ2, h2, b, p2, rp2, w2, f2⟩ => ?_
  obtain ⟨z, e, f3⟩ := of_fin (X := X) f2
  exact sub_ok k.room I2 r1 r2 rp2 (w1.ext p2) w2 e (fun y w => f3.ok0 rp2 w) (ix_of hs _ _)⟩
theorem so_none : SO L P G n none (fun _ h => .ok none h) := fun X W k tk => ⟨fun pins s σ H Q I ⟨φ, h0, ρ, rp, er, f⟩ => po_none.run pins s σ H Q I (f.ok0 rp rfl)⟩
theorem so_some (ha : SE L P G n l ma) : SO L P G n (some l) (fun ρ h => (ma ρ h).bind fun v h1 => match v with
    | .int i => .ok (some i) h1
    | _ => .bad) := fun X W k tk => ⟨fun pins s σ H Q I ⟨φ, h0, ρ, rp, er, f⟩ => by
  refine (po_some (ha X W k tk)).run pins s σ H Q I ⟨φ, h0, ρ, rp, er, (Fin.bind f).imp fun x H1 ⟨φ1, h1, a, p1, rp1, w1, f1⟩ => ?_⟩
  cases w1 with
  | int i => exact ⟨i, rfl, f1.ok0 rp1 rfl⟩
  | _ => exact f1.elim⟩
theorem se_slc {lo hi : Option Expr} {ml mh : Env → MH → Out (Option Int)} {p2 : Pos} (ha : SE L P G n l ma) (hl : SO L P G n lo ml) (hh : SO L P G n hi mh) : SE L P G n (.Subscript l (.Slice lo hi none p2) pos) (fun ρ h => (ma ρ h).bind fun v h1 => (ml ρ h1).bind fun l h2 => (mh ρ h2).bind fun u h3 => slcM v l u h3) := fun X W k tk => ⟨fun pins s σ H Q I ⟨φ, h0, ρ, rp, er, f⟩ => by
  refine (pe_slice sl_all (ha X W k tk) (hl X W k tk) (hh X W k tk)).run pins s σ H Q I ⟨φ, h0, ρ, rp, er, (Fin.bind f).imp fun x H1 ⟨φ1, h1, a, p1, rp1, w1, f1⟩ => ⟨φ1, h1, ρ, rp1, er.ext p1, (Fin.bind f1).imp fun lv H2 ⟨φ2, h2, b, p2, rp2, w2, f2⟩ =>
    ⟨φ2, h2, ρ, rp2, (er.ext p1).ext p2, (Fin.bind f2).imp fun uv H3 ⟨φ3, h3, c, p3, rp3, w3, f3⟩ => ?_⟩⟩⟩
  have w2 : b = lv := w2
  have w3 : c = uv := w3
  subst w2 w3
  exact slc_rd rp3 ((w1.ext p2).ext p3) f3⟩

/-! ### calls -/
theorem Fin.call {D : Dm} {W : WX} {σ : St} {φ : List Addr} {H : Hp} {Q : VK} {o : Out MV} (f : Fin D W (VR D) σ φ H Q o) : Fin D (fun c d _ H' => WE W σ c d H') (VR D) [] φ H Q o := by
  cases o with
  | ok v h => exact f
  | exc c fs h => exact f
  | bad => exact f
theorem callM_len {f : Nat} {vs : List MV} {h : MH} (e : callM P n f vs h ≠ .bad) : ∃ F, P.fns[f]? = some F ∧ vs.length = F.params.length := by
  cases n with
  | zero => exact absurd rfl e
  | succ n =>
    unfold callM at e
    cases q : P.fns[f]? with
    | none => rw [q] at e; exact absurd rfl e
    | some F =>
      rw [q] at e
      dsimp only at e
      by_cases hl : vs.length = F.params.length
      · exact ⟨F, rfl, hl⟩
      · rw [if_neg hl] at e; exact absurd rfl e
/-- the callee runs -/
theorem run_own {X : Cx} {W : WX} {f : Nat} {pins : List (Addr × Obj)} {s : Shared} {σ : St} {H : Hp} {Q : VK} {us : List Value} {vs : List V} {as : List MV} {φ : List Addr} {h : MH} (k : XOk L P G n X) (tk : Takes X W) (I : Inv X pins σ H s) (r : Vals vs us) (rp : Rep (dm X L.ca) φ h H) (w : VRs (dm X L.ca) φ H as vs)
    (f0 : Fin (dm X L.ca) W (VR (dm X L.ca)) σ φ H Q (callM P n f as h)) : wpAny (model X.prog X.w) X.A (call (.ref (L.fa f)) us) (EP X pins σ Q) X.xe s := by
  obtain ⟨F, hF, hl⟩ := callM_len (fun e => by rw [e] at f0; exact f0.elim)
  obtain ⟨G1, G2, G3, G4⟩ := k.ok.fn f F hF
  rw [← k.prog, ← k.w, ← k.K, ← k.mg, ← k.base] at G1
  rw [← k.K] at G3
  refine run_fnS (E := WE W) G1 (k.room.mono (by omega)) G3 (passAt tk σ) I r ⟨φ, h, as, ?_, ?_, ⟨F, hF, by rw [← w.length]; exact hl⟩, ?_⟩
  · rw [← k.dm]; exact rp
  · rw [← k.dm]; exact w
  · rw [← k.dm]; exact f0.call
theorem fn_at {f : Nat} {x : Str} (h : P.isFn f x = true) : ∃ F, P.fns[f]? = some F ∧ F.at_ = (x, none) := by
  unfold Prog.isFn at h
  cases q : P.fns[f]? with
  | none => rw [q] at h; cases h
  | some F => rw [q] at h; exact ⟨F, rfl, of_decide_eq_true h⟩
theorem se_call0 {f : Nat} {x : Str} {p : Pos} (hg : G.gl x = true) (hf : P.isFn f x = true) : SE L P G n (.Call (.Name x p) [] [] pos) (fun ρ h => callM P n f [] h) := fun X W k tk => ⟨fun pins s σ H Q I ⟨φ, h0, ρ, rp, er, fi⟩ => by
  obtain ⟨g1, g2, g3⟩ := k.gl hg
  obtain ⟨F, hF, hat⟩ := fn_at hf
  obtain ⟨G1, G2, G3, G4⟩ := k.ok.fn f F hF
  have hm : X.mg x = some (.ref (L.fa f)) := by rw [k.mg]; exact G4 x hat
  have hk : PySem.W.keepIn X.K (.ref (L.fa f)) = true := by rw [k.K]; exact G2
  refine wpAny_Call_Name_kw (ld_glob I g1 hm ?_ g2)
  exact PySem.W.callWith_K0 I.kIn hk (run_own (us := []) k tk I .nil rp .nil fi)⟩
theorem se_call {f : Nat} {x : Str} {p : Pos} {e : Expr} (hg : G.gl x = true) (hf : P.isFn f x = true) (he : nostar e = true) (hs : es.all nostar = true) (ha : SA L P G n (e :: es) mm) : SE L P G n (.Call (.Name x p) (e :: es) [] pos) (fun ρ h => (mm ρ h).bind fun vs h1 => callM P n f vs h1) := fun X W k tk => ⟨fun pins s σ H Q I ⟨φ, h0, ρ, rp, er, fi⟩ => by
  obtain ⟨g1, g2, g3⟩ := k.gl hg
  obtain ⟨F, hF, hat⟩ := fn_at hf
  obtain ⟨G1, G2, G3, G4⟩ := k.ok.fn f F hF
  have hm : X.mg x = some (.ref (L.fa f)) := by rw [k.mg]; exact G4 x hat
  have hk : PySem.W.keepIn X.K (.ref (L.fa f)) = true := by rw [k.K]; exact G2
  refine wpAny_Call_Name_kw (ld_glob I g1 hm ?_ g2)
  refine PySem.W.callWith_K (h₀ := X.base) I.ok.mod.kin hk (thn ((ha X W k tk).run pos pins s σ H _ I ⟨φ, h0, ρ, rp, er, Fin.bind fi⟩) fun us s1 ⟨vs, H1, I1, r, φ1, h1, as, p1, rp1, w1, f1⟩ => ⟨I1.kIn, ?_⟩) (star_cons he) (plain_back hs)
  exact run_own k tk I1 r rp1 w1 f1⟩
theorem boot_blt (b : Blt) : bootBuiltins b.nm = some b.val := by
  cases b <;> decide +kernel
theorem se_blt {b : Blt} {p : Pos} {e : Expr} (hg : G.gl b.nm = true) (hf : P.free.contains b.nm = true) (he : nostar e = true) (hs : es.all nostar = true) (ha : SA L P G n (e :: es) mm) : SE L P G n (.Call (.Name b.nm p) (e :: es) [] pos) (fun ρ h => (mm ρ h).bind fun vs h1 => bltM (P.cfg (callM P n)) b vs h1) := fun X W k tk => ⟨fun pins s σ H Q I ⟨φ, h0, ρ, rp, er, fi⟩ => by
  obtain ⟨g1, g2, g3⟩ := k.gl hg
  have hm : X.mg b.nm = none := by rw [k.mg]; exact k.ok.free _ (by simpa using hf)
  have fin : ∀ us s1, AP X pins σ (Aft (dm X L.ca) (VRs (dm X L.ca)) φ H fun vs h1 φ1 H1 => Fin (dm X L.ca) W (VR (dm X L.ca)) σ φ1 H1 Q (bltM (P.cfg (callM P n)) b vs h1)) us s1 → wpAny (model X.prog X.w) X.A (call b.val us) (EP X pins σ Q) X.xe s1 := fun us s1 ⟨vs, H1, I1, r, φ1, h1, as, p1, rp1, w1, f1⟩ =>
    blt_ok k.calm (fun t j hj => by rw [k.K]; exact k.ok.kit t j hj) I1 r rp1 w1 f1
  have run := (ha X W k tk).run pos pins s σ H _ I ⟨φ, h0, ρ, rp, er, Fin.bind fi⟩
  have hv := boot_blt b
  refine wpAny_Call_Name_kw (ld_blt I g1 hm hv ?_ g3 g2)
  cases b with
  | int => exact PyProof.Rows.callWith_type1 (thn run fin) (star_cons he) (plain_back hs)
  | tuple => exact PyProof.Rows.callWith_type1 (thn run fin) (star_cons he) (plain_back hs)
  | list => exact PyProof.Rows.callWith_type1 (thn run fin) (star_cons he) (plain_back hs)
  | len => exact PyProof.Rows.callWith_builtin1 (thn run fin) (star_cons he) (plain_back hs)
  | isi => exact PyProof.Rows.callWith_builtin1 (thn run fin) (star_cons he) (plain_back hs)
  | sum => exact PyProof.Rows.callWith_builtin1 (thn run fin) (star_cons he) (plain_back hs)
  | all => exact PyProof.Rows.callWith_builtin1 (thn run fin) (star_cons he) (plain_back hs)
  | any => exact PyProof.Rows.callWith_builtin1 (thn run fin) (star_cons he) (plain_back hs)
  | max => exact PyProof.Rows.callWith_builtin1 (thn run fin) (star_cons he) (plain_back hs)
  | min => exact PyProof.Rows.callWith_builtin1 (thn run fin) (star_cons he) (plain_back hs)
  | abs => exact PyProof.Rows.callWith_builtin1 (thn run fin) (star_cons he) (plain_back hs)⟩

/-! ### methods of lists -/
def Mth.id : Mth → String
  | .append => "list.append" | .pop => "list.pop"
theorem mth_slot (m : Mth) : Slot "list" m.nm m.id ∧ typeOf (.builtin m.id) = pure (.type "method_descriptor") := by
  cases m with
  | append => exact ⟨PySem.F.slot_list_append, PySem.F.type_list_append⟩
  | pop => exact ⟨PySem.F.slot_list_pop, PySem.F.type_list_pop⟩
theorem mth_ok {X : Cx} {W : WX} {m : Mth} {pins : List (Addr × Obj)} {s : Shared} {σ : St} {H : Hp} {Q : VK} {ca : Nat → Addr} {a : MV} {x : V} {v : Value} {us : List Value} {vs : List V} {as : List MV} {φ : List Addr} {h : MH} (I : Inv X pins σ H s) (rv : RelV x v) (r : Vals vs us) (rp : Rep (dm X ca) φ h H) (wa : VR (dm X ca) φ H a x) (w : VRs (dm X ca) φ H as vs)
    (f : Fin (dm X ca) W (VR (dm X ca)) σ φ H Q (mthM m a as h)) : wpAny (model X.prog X.w) X.A (call (.builtin m.id) (v :: us)) (EP X pins σ Q) X.xe s := by
  cases m with
  | append =>
    unfold mthM at f
    dsimp only at f
    split at f
    · rename_i c y
      split at f
      · rename_i xs q1
        split at f
        · rename_i hz
          cases wa with
          | @ref _ dd hm => cases w with
            | cons w1 w2 =>
              cases w2
              obtain ⟨ys, g1, g2⟩ := rp.lst hm q1
              have mu : Mut (H dd) := by rw [g1]; exact True.intro
              exact mt_append pins s σ H _ _ v us Q I rv r ⟨_, ys, _, rfl, rfl, g1, by rw [← g2.length, ← line_eq]; exact hz, f _ _ _ (Ext.mut hm mu) (rp.set hm mu ⟨_, upd_same, (g2.append (.cons w1 .nil)).ext (Ext.mut hm mu)⟩) .non⟩
        · exact f.elim
      · exact f.elim
    · exact f.elim
  | pop =>
    unfold mthM at f
    dsimp only at f
    split at f
    · rename_i c i
      split at f
      · rename_i xs q1
        split at f
        · rename_i hz
          split at f
          · rename_i j q2
            split at f
            · rename_i y q3
              cases wa with
              | @ref _ dd hm => cases w with
                | cons w1 w2 =>
                  cases w2
                  cases w1
                  obtain ⟨ys, g1, g2⟩ := rp.lst hm q1
                  have mu : Mut (H dd) := by rw [g1]; exact True.intro
                  obtain ⟨z, g3, g4⟩ := g2.get q3
                  refine mt_popAt pins s σ H _ _ v us Q I rv r ⟨_, ys, i, j, z, rfl, rfl, g1, hz.1, hz.2, by rw [← g2.length]; exact (ixN_seq q2).1, g3, f _ _ _ (Ext.mut hm mu) (rp.set hm mu ⟨_, upd_same, (g2.eraseIdx j).ext (Ext.mut hm mu)⟩) (g4.ext (Ext.mut hm mu))⟩
            · exact f.elim
          · exact f.elim
        · exact f.elim
      · exact f.elim
    · exact f.elim
theorem se_mth {m : Mth} {ap : Pos} {e : Expr} (hb : nosup l = true) (hl : (ap.endLine == pos.line) = true) (he : nostar e = true) (hs : es.all nostar = true) (hn : es.length < 28) (ho : SE L P G n l ma) (ha : SA L P G n (e :: es) mm) :
    SE L P G n (.Call (.Attribute l m.nm ap) (e :: es) [] pos) (fun ρ h => (ma ρ h).bind fun v h1 => if mthR m v h1 then (mm ρ h1).bind fun vs h2 => mthM m v vs h2 else .bad) := fun X W k tk => ⟨fun pins s σ H Q I ⟨φ, h0, ρ, rp, er, fi⟩ => by
  refine wpAny_Call_method_late (base_of hb) ?_ hl rfl (thn ((ho X W k tk).run pins s σ H _ I ⟨φ, h0, ρ, rp, er, Fin.bind fi⟩) fun v s1 ⟨x, H1, I1, r1, φ1, h1, a, p1, rp1, w1, f1⟩ => ?_)
  · have h1 : (backTo pos (starEach (e :: es) X.env)).all (fun x => !x.1) = true := plain_all (by rw [List.all_cons, he, hs]; rfl)
    rw [h1]
    simp only [List.length_cons, List.length_nil, List.isEmpty_nil, if_true, Bool.true_and, keywordEach, backToKw, List.map_nil, List.all_nil, decide_eq_true_eq]
    omega
  · dsimp only at f1
    cases q : mthR m a h1 with
    | false => rw [q] at f1; exact f1.elim
    | true =>
      rw [q] at f1
      have f1 : Fin (dm X L.ca) W (VR (dm X L.ca)) σ φ1 H1 Q ((mm ρ h1).bind fun vs h2 => mthM m a vs h2) := f1
      obtain ⟨c, ys, rfl, g1⟩ : ∃ c ys, x = .ref c ∧ H1 c = some (.lst ys) := by
        unfold mthR at q
        split at q
        · rename_i j
          split at q
          · rename_i xs q1
            cases w1 with
            | ref hm =>
              obtain ⟨ys, g1, g2⟩ := rp1.lst hm q1
              exact ⟨_, ys, rfl, g1⟩
          · cases q
        · cases q
      cases (show v = Value.ref c from r1)
      have ty := tyV_is (T := "list") (x := .ref c) (v := .ref c) I1 rfl (show tyV X.K "list" (.ref c) H1 from .inl ⟨rfl, ys, SqL.of g1⟩)
      refine ⟨"list", m.id, PySem.F.plainAttrs_list, (mth_slot m).1, (mth_slot m).2, ty.1, ty.2, ?_⟩
      have hA := (ha X W k tk).run pos pins s1 σ H1 _ I1 ⟨φ1, h1, ρ, rp1, er.ext p1, Fin.bind f1⟩
      rw [star_cons he] at hA ⊢
      refine Calls.callWith_builtin (by show (false || (backTo pos (starEach es X.env)).any (·.1)) = false; rw [plain_back hs] <;> rfl) (Calls.evalArgs_plain ?_)
      exact thn hA fun us s2 ⟨vs, H2, I2, r2, φ2, h2, as, p2, rp2, w2, f2⟩ => mth_ok I2 r1 r2 rp2 (w1.ext p2) w2 f2⟩
end
end Mi

set_option Elab.async false
set_option linter.all false
set_option maxRecDepth 100000
set_option maxHeartbeats 2000000
/-! Snd8: dict displays, what is walked, targets, list comprehensions. -/
namespace Mi
open PySem PySem.Spec PyProof.Rows L2
section
variable {D : Dm} {φ φ' : List Addr} {H H' : Hp} {h : MH} {σ : St} {W : WX}
/-- a tracked thing becomes ours -/
theorem Rep.adopt (r : Rep D φ h H) {a : Addr} {u : HO} {o : MO} (na : a ∉ φ) (t : TK D.K H (L2.upd H a u)) (w : OR D (φ ++ [a]) (L2.upd H a u) o a) : Rep D (φ ++ [a]) (h ++ [o]) (L2.upd H a u) := by
  refine ⟨by simp [r.len], ?_, fun i o' q => ?_⟩
  · rw [List.nodup_append]
    exact ⟨r.nd, by simp, fun x hx b hb => by simp at hb; subst hb; rintro rfl; exact na hx⟩
  · by_cases hi : i < h.length
    · rw [List.getElem?_append_left hi] at q
      obtain ⟨b, eb, w'⟩ := r.at_ i o' q
      have nb : b ≠ a := by rintro rfl; exact na (List.mem_of_getElem? eb)
      exact ⟨b, pre_get ⟨[a], rfl⟩ eb, w'.mono ⟨[a], rfl⟩ t (L2.upd_ne nb)⟩
    · have hlt : i < (h ++ [o]).length := (List.getElem?_eq_some_iff.mp q).1
      have e : i = h.length := by simp at hlt; omega
      subst e
      rw [List.getElem?_append_right (Nat.le_refl _)] at q
      simp at q
      subst q
      exact ⟨a, by rw [← r.len, List.getElem?_append_right (Nat.le_refl _)]; simp, w⟩
/-- a thing that is not ours is changed -/
theorem Rep.off (r : Rep D φ h H) {a : Addr} {u : HO} (na : a ∉ φ) (t : TK D.K H (L2.upd H a u)) : Rep D φ h (L2.upd H a u) :=
  ⟨r.len, r.nd, fun i o' q => by
    obtain ⟨b, eb, w'⟩ := r.at_ i o' q
    have nb : b ≠ a := by rintro rfl; exact na (List.mem_of_getElem? eb)
    exact ⟨b, eb, w'.mono (List.prefix_refl _) t (L2.upd_ne nb)⟩⟩
theorem Rep.notin (r : Rep D φ h H) {a : Addr} (e : H a = none) : a ∉ φ := fun hm => by
  obtain ⟨i, hi⟩ := List.mem_iff_getElem?.mp hm
  obtain ⟨o', q⟩ := r.there hi
  obtain ⟨v, hv⟩ := (r.get hi q).some
  rw [e] at hv; cases hv
/-- a thing that was laid meanwhile is ours now -/
theorem Ext.adopt {φ2 : List Addr} {H2 : Hp} {a : Addr} {u u0 : HO} (hn : H a = none) (e : Ext D φ φ2 (upd H a u0) H2) (t : TK D.K H2 (upd H2 a u)) : Ext D φ (φ2 ++ [a]) H (upd H2 a u) where
  pre := e.pre.trans ⟨[a], rfl⟩
  tk := ((TK.new hn).trans e.tk).trans t
  fresh := fun x hx => by
    rcases List.mem_append.mp hx with hx | hx
    · rcases e.fresh x hx with z | z
      · exact .inl z
      · by_cases hxa : x = a
        · subst hxa; exact .inr hn
        · rw [upd_ne hxa] at z; exact .inr z
    · rw [List.mem_singleton.mp hx]; exact .inr hn
  fr := fun x v q hm => by
    have hxa : x ≠ a := ne_of_none q hn
    rw [upd_ne hxa]
    exact e.fr x v (by rw [upd_ne hxa]; exact q) hm
section
variable {α β γ δ : Type} {R : List Addr → Hp → α → β → Prop} {S : List Addr → Hp → γ → δ → Prop} {Q : β → Hp → Prop}
/-- a first run from a later state, with its outcome -/
theorem Fin.first {o : Out γ} {k : γ → MH → Out α} (f : Fin D W R σ φ H Q (o.bind k)) (e0 : Ext D φ φ' H H') :
    Fin D W S σ φ' H' (fun x H1 => ∃ φ1 h1 a, o = .ok a h1 ∧ Ext D φ' φ1 H' H1 ∧ Rep D φ1 h1 H1 ∧ S φ1 H1 a x) o := by
  cases o with
  | ok v h1 => exact fun φ1 H1 x p r s => ⟨φ1, h1, v, rfl, p, r, s⟩
  | exc c fs h1 => exact fun φ1 H1 d p => f φ1 H1 d (e0.trans p)
  | bad => exact f
end
end
section
variable {L : Lk} {P : Prog} {G : Sc} {n : Nat} {ex l r : Expr} {pos : Pos} {m ma mb mc : Env → MH → Out MV} {es : List Expr} {mm : Env → MH → Out (List MV)}
theorem se_dic0 : SE L P G n (.Dict [] [] pos) (fun _ h => alloc (.dic []) h) := fun X W k tk => ⟨fun pins s σ H Q I ⟨φ, h0, ρ, rp, er, f⟩ =>
  pe_dnewK.run pins s σ H Q I fun p hp => Fin.new f rp hp (.inl ⟨[], upd_same, .nil⟩)⟩
theorem se_dic1 (ha : SE L P G n l ma) (hb : SE L P G n r mb) : SE L P G n (.Dict [some l] [r] pos) (fun ρ h => (ma ρ h).bind fun x h1 => (mb ρ h1).bind fun y h2 => if kfit [] x then alloc (.dic [(x, y)]) h2 else .bad) := fun X W k tk => ⟨fun pins s σ H Q I ⟨φ, h0, ρ, rp, er, f⟩ => by
  rw [arm_eval_Dict, show (evalEachOpt [some l] X.env).zip ((evalEach [r] X.env).map fun v => do let x ← v; standAt pos; pure x) = [(eval l X.env, (do let x ← eval r X.env; standAt pos; pure x : Sem Value))].map (fun p => (some p.1, p.2)) from rfl, dictDisplay_pairs _ (by simp) (by simp)]
  have hn := I.hok.fresh (Nat.le_refl s.heap.objs.size)
  have I0 := I.laid (a := s.heap.objs.size) (o := .dK []) (h' := s.heap.push { cls := .type "dict", data := .dict #[] }) (t' := s.toks) (fun _ _ q => Heap.get?_push_of_some _ q) (Nat.le_refl _) (dk_empty s.heap I.big)
  generalize hD : s.heap.objs.size = D at hn I0
  have ext0 : Ext (dm X L.ca) φ φ H (upd H D (.dK [])) := Ext.lay hn
  have nD : D ∉ φ := rp.notin hn
  refine wpAny_bind (wpAny_standAt (wpAny_bind ?_))
  unfold subDict
  refine wpAny_bind (wpAny_alloc ?_)
  rw [hD]
  refine wpAny_bind (wpAny_holding ?_)
  rw [if_pos (by simp)]
  have f : Fin (dm X L.ca) W (VR (dm X L.ca)) σ φ H Q ((ma ρ h0).bind _) := f
  refine wpAny_bind (evalPairs_cons (thn ((ha X W k tk).run pins _ σ _ _ I0 ⟨φ, h0, ρ, rp.upd hn, er.ext ext0, f.first ext0⟩) fun v s1 ⟨x, H1, I1, r1, φ1, h1, a, q1, p1, rp1, w1⟩ => ?_))
  rw [q1] at f
  have f : Fin (dm X L.ca) W (VR (dm X L.ca)) σ φ H Q ((mb ρ h1).bind _) := f
  refine wpAny_bind (thn ((hb X W k tk).run pins _ σ _ _ I1 ⟨φ1, h1, ρ, rp1, (er.ext ext0).ext p1, f.first (ext0.trans p1)⟩) fun u s2 ⟨y, H2, I2, r2, φ2, h2, b, q2, p2, rp2, w2⟩ => wpAny_bind (wpAny_standAt (wpAny_pure (evalPairs_nil ?_))))
  rw [q2] at f
  have p3 := p1.trans p2
  have eD : H2 D = some (.dK []) := p3.fr D _ upd_same nD
  have mu : Mut (H2 D) := by rw [eD]; exact True.intro
  have nD2 : D ∉ φ2 := fun hm => by
    rcases p3.fresh D hm with z | z
    · exact nD z
    · rw [upd_same] at z; cases z
  have f : Fin (dm X L.ca) W (VR (dm X L.ca)) σ φ H Q (if kfit [] a then alloc (.dic [(a, b)]) h2 else .bad) := f
  have fin : ∀ {u0 : HO}, OR (dm X L.ca) (φ2 ++ [D]) (upd H2 D u0) (.dic [(a, b)]) D → kfit [] a = true → Q (.ref D) (upd H2 D u0) := fun {u0} w hk => by
    rw [if_pos hk] at f
    exact f (φ2 ++ [D]) _ _ (Ext.adopt hn p3 (TK.mut mu)) (rp2.adopt nD2 (TK.mut mu) w) (.ref (by rw [← rp2.len, List.getElem?_append_right (Nat.le_refl _)]; simp))
  have we : ∀ {u0 : HO} {z : MV} {t : V}, VR (dm X L.ca) φ2 H2 z t → VR (dm X L.ca) (φ2 ++ [D]) (upd H2 D u0) z t := fun w => w.mono ⟨[D], rfl⟩ (TK.mut mu)
  have w1' := w1.ext p2
  cases hk : kfit [] a with
  | false => rw [hk] at f; exact f.elim
  | true =>
    refine wpAny_holding ?_
    have hk' : kk a = 1 ∨ kk a = 2 := by
      rcases kk_le a with e | e | e
      · simp [kfit, e] at hk
      · exact .inl e
      · exact .inr e
    rcases hk' with e | e
    · obtain ⟨q', rfl⟩ := kk1 e
      have ry : x = kV q' := by cases q' <;> (cases w1; rfl)
      subst ry
      obtain ⟨z, hd, vs0, r0, dd⟩ := dk_of I2.hok eD
      cases r0
      refine wpAny_bind (wpAny_storeAll (knd := mixKind X.prog X.w) [(v, u)] [(q', u)] [] s2 _ ⟨kV_is r1, rfl, trivial⟩ dd (by rw [sizeLine_eq]; simp) fun h' dd' hs => wpAny_pure (wpAny_pure (wpAny_pure ?_)))
      have he : ∃ q, h'.get? D = some q := let ⟨q, _, _, hq, _⟩ := dd'; ⟨q, hq⟩
      have I3 := d_write (t' := s2.toks + 1) I2 mu hs he (dk_new (kvs := [(q', y)]) (by rw [sizeLine_eq]; simp) hd (.cons ⟨rfl, r2⟩ .nil) dd')
      exact ⟨.ref D, _, I3, rfl, fin (.inl ⟨_, upd_same, .cons ⟨rfl, we w2⟩ .nil⟩) hk⟩
    · obtain ⟨ks, tk', hd⟩ := kk2 e
      obtain ⟨b', rfl⟩ : ∃ b, x = .ref b := by
        cases a with
        | tup zs => cases w1; exact ⟨_, rfl⟩
        | _ => simp [toK] at tk'
      cases r1
      obtain ⟨g1, g2⟩ := dE_of I2 eD
      have hkey : (nestedKind X.prog X.w).is s2.heap (.tup ks) b' := ⟨nest_ok I2 _ _ _ _ w1' rfl tk', hd⟩
      refine wpAny_bind (wpAny_storeAllH (knd := nestedKind X.prog X.w) (by show X.A.units + 8 < cLine; have := k.room.un; omega) [(.ref b', u)] [(.tup ks, b', u)] [] s2 _ ⟨rfl, rfl, hkey, trivial⟩ g2 (by rw [sizeLine_eq]; simp) fun h' tk2 dd' hs => wpAny_pure (wpAny_pure (wpAny_pure ?_)))
      have I3 := dX_write (ca := L.ca) (kvs := [(a, b)]) (t' := tk2) I2 mu hs dd'
      exact ⟨.ref D, _, I3, rfl, fin (.inr ⟨_, upd_same, g1, by simp [storedAllH, storedH, atKey], by simp, by rw [sizeLine_eq]; simp, .cons ⟨y, tk', ⟨ks, rfl⟩, hd, we w1', r2, we w2⟩ .nil⟩) hk⟩⟩
end
end Mi

set_option Elab.async false
set_option linter.all false
set_option maxRecDepth 100000
set_option maxHeartbeats 2000000
/-! Snd9: what is walked, targets, list comprehensions. -/
namespace Mi
open PySem PySem.Spec PyProof.Rows L2
section
variable {L : Lk} {P : Prog} {G : Sc} {n : Nat} {ex l r : Expr} {pos : Pos} {m ma mb mc : Env → MH → Out MV} {es : List Expr} {mm : Env → MH → Out (List MV)}
theorem si_val (ha : SE L P G n l ma) : SI L P G n l (fun ρ h => (ma ρ h).bind fun v h1 => .of h1 (itV v h1)) := fun X W tg k tk => ⟨fun pins s σ H R I ⟨φ, h0, ρ, rp, er, f⟩ => by
  refine thn ((ha X W k tk).run pins s σ H _ I ⟨φ, h0, ρ, rp, er, Fin.bind f⟩) fun v s1 ⟨x, H1, I1, r1, φ1, h1, a, p1, rp1, w1, f1⟩ => ?_
  obtain ⟨J0, e, f2⟩ := of_fin (X := X) f1
  exact iter_ok I1 r1 rp1 w1 e fun J ir => f2.ok0 rp1 ir⟩
theorem si_rng1 {p : Pos} (hg : G.gl "range" = true) (hf : P.free.contains ("range" : Str) = true) (hs : nostar l = true) (ha : SE L P G n l ma) : SI L P G n (.Call (.Name "range" p) [l] [] pos) (fun ρ h => (ma ρ h).bind fun v h1 => .of h1 (rngM [v])) := fun X W tg k tk => ⟨fun pins s σ H R I ⟨φ, h0, ρ, rp, er, f⟩ => by
  obtain ⟨g1, g2, g3⟩ := k.gl hg
  have hm : X.mg ("range" : Str) = none := by rw [k.mg]; exact k.ok.free _ (by simpa using hf)
  refine (pi_range1 (tg := tg) g1 hm (pa_cons (ha X W k tk) pa_nil (star_cons hs)) (star_cons hs)).run pins s σ H R I ⟨φ, h0, ρ, rp, er, (Fin.bind f).imp fun x H1 ⟨φ1, h1, as, p1, rp1, w1, f1⟩ => ?_⟩
  obtain ⟨J0, e, f2⟩ := of_fin (X := X) f1
  cases w1 with
  | int j =>
    unfold rngM at e
    dsimp only at e
    split at e
    · rename_i hz
      cases e
      exact ⟨_, rfl, hz.1, hz.2, f2.ok0 rp1 rfl⟩
    · cases e
  | _ => cases e⟩
theorem si_rng2 {p : Pos} (hg : G.gl "range" = true) (hf : P.free.contains ("range" : Str) = true) (hs : nostar l = true) (hs2 : nostar r = true) (ha : SE L P G n l ma) (hb : SE L P G n r mb) : SI L P G n (.Call (.Name "range" p) [l, r] [] pos) (fun ρ h => (ma ρ h).bind fun v h1 => (mb ρ h1).bind fun w h2 => .of h2 (rngM [v, w])) := fun X W tg k tk => ⟨fun pins s σ H R I ⟨φ, h0, ρ, rp, er, f⟩ => by
  obtain ⟨g1, g2, g3⟩ := k.gl hg
  have hm : X.mg ("range" : Str) = none := by rw [k.mg]; exact k.ok.free _ (by simpa using hf)
  refine (pi_range2 (tg := tg) g1 hm (pa_cons (ha X W k tk) (pa_cons (hb X W k tk) pa_nil (star_cons hs2)) (star_cons hs)) (by rw [star_cons hs, star_cons hs2]; rfl) (star_cons hs2)).run pins s σ H R I ⟨φ, h0, ρ, rp, er, (Fin.bind f).imp fun x H1 ⟨φ1, h1, a, p1, rp1, w1, f1⟩ =>
    ⟨φ1, h1, ρ, rp1, er.ext p1, (Fin.bind f1).imp fun y H2 ⟨φ2, h2, b, p2, rp2, w2, f2⟩ => ?_⟩⟩
  obtain ⟨J0, e, f3⟩ := of_fin (X := X) f2
  cases w1 with
  | int i => cases w2 with
    | int j =>
      unfold rngM at e
      dsimp only at e
      split at e
      · rename_i hz
        cases e
        exact ⟨i, j, rfl, hz, f3.ok0 rp2 rfl⟩
      · cases e
    | _ => cases e
  | _ => cases e⟩

/-! ### targets -/
/-- the end of a store -/
def FinA (D : Dm) (W : WX) (ss : List Nat) (σ : St) (φ : List Addr) (H : Hp) (Q : St → Hp → Prop) : SOut → Prop
  | .next ρ' h' => ∀ φ' H' σ', Ext D φ φ' H H' → Rep D φ' h' H' → ER D φ' H' ρ' σ' → Off ss σ σ' → Q σ' H'
  | .exc c fs ρ' h' => ∀ φ' H' σ' d, Ext D φ φ' H H' → Rep D φ' h' H' → ER D φ' H' ρ' σ' → XR D φ' H' fs d → W (.ref (D.ca c)) d σ' H'
  | _ => False
def tGm (D : Dm) (W : WX) (ss : List Nat) (m : MV → Env → MH → SOut) : TG := fun x σ H Q => ∃ φ h ρ v, Rep D φ h H ∧ ER D φ H ρ σ ∧ VR D φ H v x ∧ FinA D W ss σ φ H Q (m v ρ h)
def tGs (D : Dm) (W : WX) (ss : List Nat) (m : List MV → Env → MH → SOut) : TGs := fun xs σ H Q => ∃ φ h ρ vs, Rep D φ h H ∧ ER D φ H ρ σ ∧ VRs D φ H vs xs ∧ FinA D W ss σ φ H Q (m vs ρ h)
def SG (L : Lk) (P : Prog) (G : Sc) (n : Nat) (tg : Expr) (ss : List Nat) (m : MV → Env → MH → SOut) : Prop := ∀ (X : Cx) (W : WX), XOk L P G n X → Takes X W → PG X tg (tGm (dm X L.ca) W ss m)
def SGs (L : Lk) (P : Prog) (G : Sc) (n : Nat) (ts : List Expr) (ss : List Nat) (m : List MV → Env → MH → SOut) : Prop := ∀ (X : Cx) (W : WX), XOk L P G n X → Takes X W → PGs X ts (tGs (dm X L.ca) W ss m)
theorem FinA.mono {D : Dm} {W : WX} {ss : List Nat} {σ σ1 : St} {φ φ' : List Addr} {H H' : Hp} {Q : St → Hp → Prop} {o : SOut} {ss' : List Nat} (f : FinA D W ss σ φ H Q o) (e : Ext D φ φ' H H') (hs : ∀ σ', Off ss' σ1 σ' → Off ss σ σ') : FinA D W ss' σ1 φ' H' Q o := by
  cases o with
  | next ρ' h' => exact fun φ2 H2 σ' p r w o => f φ2 H2 σ' (e.trans p) r w (hs _ o)
  | exc c fs ρ' h' => exact fun φ2 H2 σ' d p => f φ2 H2 σ' d (e.trans p)
  | ret v h => exact f
  | brk ρ h => exact f
  | cnt ρ h => exact f
  | bad => exact f
theorem sg_name {i : Nat} {x : Str} (hl : G.loc i x = true) : SG L P G n (.Name x pos) [i] (fun v ρ h => .next (ρ.set i (some v)) h) := fun X W k tk => ⟨fun pins s σ H v u Q I r ⟨φ, h0, ρ, a, rp, er, w, f⟩ => by
  obtain ⟨h1, h2, h3⟩ := k.loc hl
  refine wpAny_assign_Name (store_ok I k.nd h1 h2 r (fun s' I' => ⟨_, H, I', ?_⟩) h3)
  exact f φ H _ Ext.refl rp (er.set i w) ⟨by simp, fun j hj => List.getElem?_set_ne (fun e => hj (by simp [e]))⟩⟩
theorem sgs_nil : SGs L P G n [] [] (fun vs ρ h => match vs with
  | [] => .next ρ h
  | _ => .bad) := fun X W k tk => ⟨fun pins s σ H vs us Q I r ⟨φ, h0, ρ, as, rp, er, w, f⟩ => by
  cases w with
  | nil =>
    cases r
    exact assignInOrder_nil ⟨σ, H, I, f φ H σ Ext.refl rp er (Off.refl _ _)⟩
  | cons _ _ => exact f.elim⟩
theorem each_cons {e : Expr} {es : List Expr} {env : PySem.Env} (h : nostar e = true) : assignEach (e :: es) env = (false, assign e env) :: assignEach es env := by
  cases e <;> first | rfl | cases h
theorem sgs_cons {ss ss' : List Nat} {g : MV → Env → MH → SOut} {gs : List MV → Env → MH → SOut} (hs : nostar l = true) (ha : SG L P G n l ss g) (hr : SGs L P G n es ss' gs) : SGs L P G n (l :: es) (ss ++ ss') (fun vs ρ h => match vs with
  | v :: vs => match g v ρ h with
    | .next ρ1 h1 => gs vs ρ1 h1
    | _ => .bad
  | [] => .bad) := fun X W k tk => ⟨fun pins s σ H vs us Q I r ⟨φ, h0, ρ, as, rp, er, w, f⟩ => by
  cases w with
  | nil => exact f.elim
  | @cons v x vs' xs w1 w2 =>
    cases r with
    | cons r1 r2 =>
      rw [each_cons hs]
      have f : FinA (dm X L.ca) W (ss ++ ss') σ φ H Q (match g v ρ h0 with
        | .next ρ1 h1 => gs vs' ρ1 h1
        | _ => .bad) := f
      show wpAny _ _ (assignInOrder (assign l X.env :: (assignEach es X.env).map (·.2)) _) _ _ s
      refine assignInOrder_cons (thn ((ha X W k tk).run pins s σ H _ _ (fun σ1 H1 => ∃ φ1 h1 ρ1, Ext (dm X L.ca) φ φ1 H H1 ∧ Rep (dm X L.ca) φ1 h1 H1 ∧ ER (dm X L.ca) φ1 H1 ρ1 σ1 ∧ Off ss σ σ1 ∧ FinA (dm X L.ca) W (ss ++ ss') σ φ H Q (gs vs' ρ1 h1)) I r1 ⟨φ, h0, ρ, v, rp, er, w1, ?_⟩) fun _ s1 ⟨σ1, H1, I1, φ1, h1, ρ1, p1, rp1, er1, o1, f1⟩ => ?_)
      · cases e : g v ρ h0 with
        | next ρ1 h1 =>
          rw [e] at f
          exact fun φ1 H1 σ1 p1 rp1 er1 o1 => ⟨φ1, h1, ρ1, p1, rp1, er1, o1, f⟩
        | _ => rw [e] at f; exact f.elim
      · exact (hr X W k tk).run pins s1 σ1 H1 _ _ Q I1 r2 ⟨φ1, h1, ρ1, vs', rp1, er1, w2.ext p1, f1.mono p1 fun σ' o' => o1.trans o'⟩⟩
theorem idx_none {env : PySem.Env} : ∀ {es : List Expr}, es.all nostar = true → (assignEach es env).findIdx? (·.1) = none
  | [], _ => rfl
  | e :: es, h => by
    rw [List.all_cons, Bool.and_eq_true] at h
    rw [each_cons h.1, List.findIdx?_cons]
    simp [idx_none h.2]
theorem each_len {env : PySem.Env} : ∀ {es : List Expr}, es.all nostar = true → (assignEach es env).length = es.length
  | [], _ => rfl
  | e :: es, h => by
    rw [List.all_cons, Bool.and_eq_true] at h
    rw [each_cons h.1, List.length_cons, each_len h.2, List.length_cons]
theorem sg_tup {ss : List Nat} {gs : List MV → Env → MH → SOut} {k1 : Nat} (hs : es.all nostar = true) (hl : ∀ vs ρ h, gs vs ρ h ≠ .bad → vs.length = es.length) (hr : SGs L P G n es ss gs) : SG L P G n (.Tuple es k1 pos) ss (fun v ρ h => match v with
    | .tup xs => gs xs ρ h
    | _ => .bad) := fun X W k tk => ⟨fun pins s σ H v u Q I r ⟨φ, h0, ρ, a, rp, er, w, f⟩ => by
  cases w with
  | @tup xs p ys h1 h2 =>
    cases r
    have f : FinA (dm X L.ca) W ss σ φ H Q (gs xs ρ h0) := f
    have hl' := hl xs ρ h0 (fun e => by rw [e] at f; exact f.elim)
    obtain ⟨its, rv, ht, hz⟩ := I.tuple h1
    refine assign_Tuple_tuple (I.ok.hd k.calm) ht (by rw [each_len hs, ← hl', h2.length, rv.length]; simp) (idx_none hs) fun h' hx => ?_
    have I1 : Inv X pins σ H { s with heap := h' } := I.kept (t' := s.toks) fun b o e => hx b o (Nat.ne_of_lt (Heap.lt_size e)) e
    exact (hr X W k tk).run pins _ σ H ys _ Q I1 (by simpa using rv) ⟨φ, h0, ρ, xs, rp, er, h2, f⟩
  | _ => exact f.elim⟩
theorem asg_sub {o i : Expr} {env : PySem.Env} (h : noslice i = true) (v : Value) : assign (.Subscript o i pos) env v = (do
      let ov ← holding [v] (eval o env)
      let iv ← holding [v, ov] (eval i env)
      standAt pos
      holding [v, ov, iv] (setItem ov iv v)
      release [v, ov, iv] []) := by
  cases i <;> first | rfl | cases h
def subA (ma mb : Env → MH → Out MV) : MV → Env → MH → SOut := fun v ρ h => match ma ρ h with
    | .ok o h1 => match mb ρ h1 with
      | .ok k h2 => match setM o k v h2 with
        | some h3 => .next ρ h3
        | none => .bad
      | .exc c fs h2 => .exc c fs ρ h2
      | .bad => .bad
    | .exc c fs h1 => .exc c fs ρ h1
    | .bad => .bad
theorem setM_ok {X : Cx} {ca : Nat → Addr} (hr : Room n X.A) {o i v : MV} {x y z : V} {ov iv u : Value} {h h3 : MH} {φ : List Addr} {pins : List (Addr × Obj)} {s : Shared} {σ : St} {H : Hp} {Q : Hp → Prop} (I : Inv X pins σ H s) (rp : Rep (dm X ca) φ h H) (r1 : RelV x ov) (r2 : RelV y iv) (r3 : RelV z u)
    (w1 : VR (dm X ca) φ H o x) (w2 : VR (dm X ca) φ H i y) (w3 : VR (dm X ca) φ H v z) (e : setM o i v h = some h3) (hQ : ∀ H', Ext (dm X ca) φ φ H H' → Rep (dm X ca) φ h3 H' → Q H') : wpAny (model X.prog X.w) X.A (setItem ov iv u) (fun _ s' => ∃ H', Inv X pins σ H' s' ∧ Q H') X.xe s := by
  cases w1 with
  | @ref m a hm =>
    unfold setM at e
    dsimp only at e
    split at e
    · rename_i xs q1
      cases w2 with
      | int k =>
        dsimp only at e
        split at e
        · rename_i j q2
          cases e
          obtain ⟨ys, g1, g2⟩ := rp.lst hm q1
          have mu : Mut (H a) := by rw [g1]; exact True.intro
          exact set_list pins s σ H _ _ z ov iv u _ I r1 r2 r3 ⟨a, ys, k, j, rfl, rfl, g1, by rw [← g2.length]; exact q2, hQ _ (Ext.mut hm mu) (rp.set hm mu ⟨_, upd_same, ((g2.set w3 j).ext (Ext.mut hm mu))⟩)⟩
        · cases e
      | _ => cases e
    · rename_i kvs q1
      split at e
      · rename_i hf
        cases e
        obtain ⟨f1, f2⟩ := Bool.and_eq_true_iff.mp hf
        exact dset_ok hr I rp q1 r1 r2 r3 (.ref hm) w2 w3 f1 (of_decide_eq_true f2) hQ
      · cases e
    · cases e
  | _ => cases e
theorem sg_sub (hs : noslice r = true) (ha : SE L P G n l ma) (hb : SE L P G n r mb) : SG L P G n (.Subscript l r pos) [] (subA ma mb) := fun X W k tk => ⟨fun pins s σ H v u Q I rv ⟨φ, h0, ρ, a, rp, er, w, f⟩ => by
  rw [asg_sub hs]
  refine wpAny_bind (wpAny_holding (thn ((ha X W k tk).run pins s σ H (fun x H1 => ∃ φ1 h1 o, Ext (dm X L.ca) φ φ1 H H1 ∧ Rep (dm X L.ca) φ1 h1 H1 ∧ VR (dm X L.ca) φ1 H1 o x ∧ ma ρ h0 = .ok o h1) I ⟨φ, h0, ρ, rp, er, ?_⟩) fun ov s1 ⟨x, H1, I1, r1, φ1, h1, o, p1, rp1, w1, e1⟩ => ?_))
  · unfold subA at f
    cases e : ma ρ h0 with
    | ok o h1 => exact fun φ1 H1 x p r w => ⟨φ1, h1, o, p, r, w, rfl⟩
    | exc c fs h1 => rw [e] at f; exact fun φ1 H1 d p r xr => f φ1 H1 σ d p r (er.ext p) xr
    | bad => rw [e] at f; exact f
  · unfold subA at f
    rw [e1] at f
    dsimp only at f
    refine wpAny_bind (wpAny_holding (thn ((hb X W k tk).run pins s1 σ H1 (fun y H2 => ∃ φ2 h2 i, Ext (dm X L.ca) φ1 φ2 H1 H2 ∧ Rep (dm X L.ca) φ2 h2 H2 ∧ VR (dm X L.ca) φ2 H2 i y ∧ mb ρ h1 = .ok i h2) I1 ⟨φ1, h1, ρ, rp1, er.ext p1, ?_⟩) fun iv s2 ⟨y, H2, I2, r2, φ2, h2, i, p2, rp2, w2, e2⟩ => ?_))
    · cases e : mb ρ h1 with
      | ok i h2 => exact fun φ2 H2 y p r w => ⟨φ2, h2, i, p, r, w, rfl⟩
      | exc c fs h2 => rw [e] at f; exact fun φ2 H2 d p r xr => f φ2 H2 σ d (p1.trans p) r ((er.ext p1).ext p) xr
      | bad => rw [e] at f; exact f
    · rw [e2] at f
      dsimp only at f
      cases e3 : setM o i a h2 with
      | none => rw [e3] at f; exact f.elim
      | some h3 =>
        rw [e3] at f
        have p3 := p1.trans p2
        refine wpAny_bind (wpAny_standAt (wpAny_bind (wpAny_holding (thn (setM_ok (Q := fun H' => ∃ φ3, Ext (dm X L.ca) φ φ3 H H' ∧ Rep (dm X L.ca) φ3 h3 H') k.room I2 rp2 r1 r2 rv (w1.ext p2) w2 (w.ext p3) e3 fun H' p r => ⟨φ2, p3.trans p, r⟩) fun _ s3 ⟨H3, I3, φ3, p4, rp3⟩ => ?_))))
        exact wpAny_release ⟨σ, H3, I3, f φ3 H3 σ p4 rp3 (er.ext p4) (Off.refl _ _)⟩⟩
end
end Mi

set_option Elab.async false
set_option linter.all false
set_option maxRecDepth 100000
set_option maxHeartbeats 2000000
/-! Snd10: list comprehensions. -/
namespace Mi
open PySem PySem.Spec PyProof.Rows L2
def turnM (g : MV → Env → MH → SOut) (mt : Env → MH → Out Bool) (me : Env → MH → Out MV) (vs : List Nat) (I : Mi.It) (ρ : Env) : Nat → MH → Out (Option (Option MV)) := fun i h2 => match I.at_ i h2 with
        | none => .bad
        | some none => .ok none h2
        | some (some v) => match g v (Mi.wipe ρ vs) h2 with
          | .next ρ3 h3 => (mt ρ3 h3).bind fun b h4 => if b then (me ρ3 h4).bind fun x h5 => .ok (some (some x)) h5 else .ok (some none) h4
          | _ => .bad
def lcR (mi : Env → MH → Out Mi.It) (g : MV → Env → MH → SOut) (mt : Env → MH → Out Bool) (me : Env → MH → Out MV) (vs : List Nat) (fuel : Nat) : Env → MH → Out MV := fun ρ h =>
  (mi ρ h).bind fun I h1 => (lcM (turnM g mt me vs I ρ) fuel 0 [] h1).bind fun xs h2 => alloc (.lst xs) h2
abbrev Wn : WX := fun _ _ _ _ => False
theorem upd_self {H : Hp} {a : Addr} {o : HO} (e : H a = some o) : upd H a o = H := by
  funext b
  unfold upd
  by_cases h : b = a
  · rw [if_pos h, h, e]
  · rw [if_neg h]
section
variable {D : Dm} {W : WX} {σ : St} {H : Hp} {Q : VK} {mi : Env → MH → Out Mi.It} {g : MV → Env → MH → SOut} {mt : Env → MH → Out Bool} {me : Env → MH → Out MV} {vs ss : List Nat} {fuel : Nat}
theorem lc_rd (hss : ∀ j ∈ ss, j ∈ vs) (h : tE D W (lcR mi g mt me vs fuel) σ H Q) : tLc (tI D W mi) (tGm D Wn ss g) (tT D Wn mt) (tE D Wn me) vs σ H Q := by
  obtain ⟨φ, h0, ρ, rp, er, f⟩ := h
  have f : Fin D W (VR D) σ φ H Q ((mi ρ h0).bind _) := f
  refine ⟨φ, h0, ρ, rp, er, (f.first (S := IR D) Ext.refl).imp fun J H1 ⟨φ1, h1, I, e1, p1, rp1, ir⟩ => ?_⟩
  rw [e1] at f
  have f : Fin D W (VR D) σ φ H Q ((lcM (turnM g mt me vs I ρ) fuel 0 [] h1).bind fun xs h2 => alloc (.lst xs) h2) := f
  intro N hN
  have nN : N ∉ φ1 := rp1.notin hN
  have x0 : Ext D φ1 φ1 H1 (upd H1 N (.lst [])) := Ext.lay hN
  refine ⟨fun i m H' => ∃ φ' h' acc ys, Ext D φ1 φ' H1 H' ∧ Rep D φ' h' H' ∧ N ∉ φ' ∧ H' N = some (.lst ys) ∧ VRs D φ' H' acc ys ∧ Fin D W (VR D) σ φ H Q ((lcM (turnM g mt me vs I ρ) m i acc h').bind fun xs h2 => alloc (.lst xs) h2),
    ⟨fuel, φ1, h1, [], [], x0, rp1.upd hN, nN, upd_same, .nil, f⟩, ?_⟩
  rintro i m H' ⟨φ', h', acc, ys, x1, rp', nN', eN, wa, f'⟩
  have still : ∀ {φ2 H2}, Ext D φ' φ2 H' H2 → N ∉ φ2 ∧ H2 N = some (.lst ys) := fun x => by
    refine ⟨fun hm => ?_, x.fr N _ eN nN'⟩
    rcases x.fresh N hm with z | z
    · exact nN' z
    · rw [eN] at z; cases z
  cases m with
  | zero => exact f'.elim
  | succ m =>
    unfold lcM at f'
    obtain ⟨t1, t2⟩ := ir.turn x1 rp' i
    cases ea : I.at_ i h' with
    | none =>
      have et : turnM g mt me vs I ρ i h' = .bad := by unfold turnM; rw [ea]
      rw [et] at f'; exact f'.elim
    | some o =>
      cases o with
      | none =>
        have et : turnM g mt me vs I ρ i h' = .ok none h' := by unfold turnM; rw [ea]
        rw [et] at f'
        refine .inl ⟨t1 ea, ?_⟩
        have f' : Fin D W (VR D) σ φ H Q (alloc (.lst acc) h') := f'
        have mu : Mut (H' N) := by rw [eN]; exact True.intro
        have y1 : Ext D φ1 (φ' ++ [N]) H1 H' := ⟨x1.pre.trans ⟨[N], rfl⟩, x1.tk, fun a ha => (List.mem_append.mp ha).elim (x1.fresh a) fun z => .inr (by rw [List.mem_singleton.mp z]; exact hN), x1.fr⟩
        have y2 := rp'.adopt (u := .lst ys) (o := .lst acc) nN' (TK.mut mu) ⟨ys, upd_same, wa.mono ⟨[N], rfl⟩ (TK.mut mu)⟩
        rw [upd_self eN] at y2
        exact f' (φ' ++ [N]) H' _ (p1.trans y1) y2 (.ref (by rw [← rp'.len, List.getElem?_append_right (Nat.le_refl _)]; simp))
      | some v =>
        obtain ⟨t3, t4⟩ := t2 v ea
        refine .inr ⟨t3, fun H2 => ∃ φ' h' acc ys, Ext D φ1 φ' H1 H2 ∧ Rep D φ' h' H2 ∧ N ∉ φ' ∧ H2 N = some (.lst ys) ∧ VRs D φ' H2 acc ys ∧ Fin D W (VR D) σ φ H Q ((lcM (turnM g mt me vs I ρ) m (i + 1) acc h').bind fun xs h2 => alloc (.lst xs) h2), fun H2 w => ⟨m, Nat.lt_succ_self _, w⟩, fun x H2 hy => ?_⟩
        obtain ⟨φ2, x2, rp2, w2⟩ := t4 x H2 hy
        have x12 := x1.trans x2
        refine ⟨φ2, h', Mi.wipe ρ vs, v, rp2, (er.ext (p1.trans x12)).wipe vs, w2, ?_⟩
        have et : turnM g mt me vs I ρ i h' = (match g v (Mi.wipe ρ vs) h' with
          | .next ρ3 h3 => (mt ρ3 h3).bind fun b h4 => if b then (me ρ3 h4).bind fun x h5 => Out.ok (some (some x)) h5 else Out.ok (some none) h4
          | _ => Out.bad) := by
          unfold turnM
          rw [ea]
        rw [et] at f'
        clear et
        cases eg : g v (Mi.wipe ρ vs) h' with
        | next ρ3 h3 =>
          rw [eg] at f'
          intro φ3 H3 σ3 x3 rp3 er3 off
          refine ⟨off.wipe hss, φ3, h3, ρ3, rp3, er3, ?_⟩
          dsimp only at f'
          cases et : mt ρ3 h3 with
          | ok b h4 =>
            rw [et] at f'
            intro φ4 H4 b' x4 rp4 eb
            have eb : b = b' := eb
            subst eb
            have x14 := (x12.trans x3).trans x4
            cases b with
            | false =>
              rw [if_neg Bool.false_ne_true]
              obtain ⟨s1, s2⟩ := still ((x2.trans x3).trans x4)
              exact ⟨φ4, h4, acc, ys, x14, rp4, s1, s2, wa.ext ((x2.trans x3).trans x4), f'⟩
            | true =>
              rw [if_pos rfl]
              refine ⟨φ4, h4, ρ3, rp4, er3.ext x4, ?_⟩
              have f' : Fin D W (VR D) σ φ H Q ((match (me ρ3 h4).bind fun x h5 => Out.ok (some (some x)) h5 with
                | .ok none h1 => Out.ok acc h1
                | .ok (some none) h1 => lcM (turnM g mt me vs I ρ) m (i + 1) acc h1
                | .ok (some (some v)) h1 => if acc.length < line then lcM (turnM g mt me vs I ρ) m (i + 1) (acc ++ [v]) h1 else .bad
                | _ => .bad).bind fun xs h2 => alloc (.lst xs) h2) := f'
              cases ee : me ρ3 h4 with
              | ok z h5 =>
                rw [ee] at f'
                have f' : Fin D W (VR D) σ φ H Q ((if acc.length < line then lcM (turnM g mt me vs I ρ) m (i + 1) (acc ++ [z]) h5 else .bad).bind fun xs h2 => alloc (.lst xs) h2) := f'
                intro φ5 H5 y x5 rp5 w5
                have x25 := ((x2.trans x3).trans x4).trans x5
                obtain ⟨nN5, eN5⟩ := still x25
                have wa5 := wa.ext x25
                have x15 := x14.trans x5
                have mu : Mut (H5 N) := by rw [eN5]; exact True.intro
                by_cases hz : acc.length < line
                · rw [if_pos hz] at f'
                  refine ⟨ys, eN5, by rw [← wa5.length, ← line_eq]; exact hz, φ5, h5, acc ++ [z], ys ++ [y], ?_, rp5.off nN5 (TK.mut mu), nN5, upd_same, (wa5.append (.cons w5 .nil)).mono (List.prefix_refl _) (TK.mut mu), f'⟩
                  refine ⟨x15.pre, x15.tk.trans (TK.mut mu), x15.fresh, fun a u e hm => ?_⟩
                  rw [upd_ne (ne_of_none e hN)]
                  exact x15.fr a u e hm
                · rw [if_neg hz] at f'; exact f'.elim
              | exc c fs h5 => rw [ee] at f'; exact f'.elim
              | bad => rw [ee] at f'; exact f'.elim
          | exc c fs h4 => rw [et] at f'; exact f'.elim
          | bad => rw [et] at f'; exact f'.elim
        | exc c fs ρ3 h3 => rw [eg] at f'; exact f'.elim
        | ret v3 h3 => rw [eg] at f'; exact f'.elim
        | brk ρ3 h3 => rw [eg] at f'; exact f'.elim
        | cnt ρ3 h3 => rw [eg] at f'; exact f'.elim
        | bad => rw [eg] at f'; exact f'.elim
end
end Mi

set_option Elab.async false
set_option linter.all false
set_option maxRecDepth 100000
set_option maxHeartbeats 2000000
/-! Snd11: every expression of the text runs as ours does. -/
namespace Mi
open PySem PySem.Spec PyProof.Rows L2
section
variable {L : Lk} {P : Prog} {G : Sc} {n : Nat}
theorem takesN {X : Cx} : Takes X Wn := fun _ _ ⟨_, _, _, _, _, _, _, _, _, _, _, _, _, _, _, _, w⟩ => w.elim
theorem XOk.blk {X : Cx} (k : XOk L P G n X) (s : Shared) (H : Hp) (scope : Scope) (cl : List (Str × Addr)) (C : Addr) (fp : List Addr) : XOk L P ⟨G.N, relS scope G.sc, some scope⟩ n (X.blk s H scope (compEnvC scope cl C X.env) fp) where
  prog := k.prog
  w := k.w
  K := k.K
  mg := k.mg
  base := k.base
  N := k.N
  nd := k.nd
  sc := by rw [← k.sc]; rfl
  room := k.room
  calm := k.calm
  fn := fun _ => rfl
  ok := k.ok
def SPt (L : Lk) (P : Prog) (G : Sc) (n : Nat) (es : List Expr) (m : Env → MH → Out Bool) : Prop := ∀ (X : Cx) (W : WX), XOk L P G n X → Takes X W → PTs X es (tT (dm X L.ca) W m)
theorem spt_nil : SPt L P G n [] (fun _ h => .ok true h) := fun X W k tk => ⟨fun pins s σ H Q I ⟨φ, h0, ρ, rp, er, f⟩ => pts_nil.run pins s σ H Q I (f.ok0 rp rfl)⟩
theorem spt_one {c : Expr} {m : Env → MH → Out Bool} (h : ST L P G n c m) : SPt L P G n [c] m := fun X W k tk => pts_one (h X W k tk)
theorem se_lc {elt tg iter : Expr} {ifs : List Expr} {scope : Scope} {own : List (Str × Nat)} {pos : Pos} {mi : Env → MH → Out Mi.It} {g : MV → Env → MH → SOut} {mt : Env → MH → Out Bool} {me : Env → MH → Out MV} {ss : List Nat} (hb : blkC G.N G.sc scope own = true) (hn : noset iter = true) (hss : ∀ j ∈ ss, j ∈ own.map (·.2))
    (hi : SI L P G n iter mi) (hg : SG L P ⟨G.N, relS scope G.sc, some scope⟩ n tg ss g) (ht : SPt L P ⟨G.N, relS scope G.sc, some scope⟩ n ifs mt) (he : SE L P ⟨G.N, relS scope G.sc, some scope⟩ n elt me) : SE L P G n (.ListComp elt [⟨tg, iter, ifs, 0⟩] scope pos) (lcR mi g mt me (own.map (·.2)) P.fuel) := fun X W k tk => ⟨fun pins s σ H Q I h => by
  have hb' : blkC X.N X.env.scope scope own = true := by rw [k.N, k.sc]; exact hb
  exact (pe_lc (pos := pos) k.calm k.nd (hi X W tg k tk) (blkOk_by hb') (fun s H C cl fp => hg _ Wn (k.blk s H scope cl C fp) takesN) (fun s H C cl fp => ht _ Wn (k.blk s H scope cl C fp) takesN) (fun s H C cl fp => he _ Wn (k.blk s H scope cl C fp) takesN) (fun x => set_of hn)).run pins s σ H Q I (lc_rd hss h)⟩
variable {ex : Expr} {m m' : Env → MH → Out MV}
theorem SE.cong (h : SE L P G n ex m) (e : ∀ ρ h, m' ρ h = m ρ h) : SE L P G n ex m' := by
  have : m' = m := funext fun ρ => funext fun h => e ρ h
  rw [this]; exact h
theorem cong2 (h : SE L P G n ex m ∧ ST L P G n ex (testM m)) (e : ∀ ρ h, m' ρ h = m ρ h) : SE L P G n ex m' ∧ ST L P G n ex (testM m') := by
  have : m' = m := funext fun ρ => funext fun h => e ρ h
  rw [this]; exact h
theorem both (he : ∀ env whole, isTrue ex env whole = (do let v ← whole; standAt ex.pos; holding [v] (truthy v))) (ha : SE L P G n ex m) : SE L P G n ex m ∧ ST L P G n ex (testM m) := ⟨ha, st_plain he ha⟩
theorem SA.cong {es : List Expr} {m m' : Env → MH → Out (List MV)} (h : SA L P G n es m) (e : ∀ ρ h, m' ρ h = m ρ h) : SA L P G n es m' := by
  have : m' = m := funext fun ρ => funext fun h => e ρ h
  rw [this]; exact h
theorem SO.cong {es : Option Expr} {m m' : Env → MH → Out (Option Int)} (h : SO L P G n es m) (e : ∀ ρ h, m' ρ h = m ρ h) : SO L P G n es m' := by
  have : m' = m := funext fun ρ => funext fun h => e ρ h
  rw [this]; exact h
theorem SI.cong {m m' : Env → MH → Out Mi.It} (h : SI L P G n ex m) (e : ∀ ρ h, m' ρ h = m ρ h) : SI L P G n ex m' := by
  have : m' = m := funext fun ρ => funext fun h => e ρ h
  rw [this]; exact h
theorem SG.cong {ss : List Nat} {m m' : MV → Env → MH → SOut} (h : SG L P G n ex ss m) (e : ∀ v ρ h, m' v ρ h = m v ρ h) : SG L P G n ex ss m' := by
  have : m' = m := funext fun v => funext fun ρ => funext fun h => e v ρ h
  rw [this]; exact h
theorem SGs.cong {es : List Expr} {ss : List Nat} {m m' : List MV → Env → MH → SOut} (h : SGs L P G n es ss m) (e : ∀ v ρ h, m' v ρ h = m v ρ h) : SGs L P G n es ss m' := by
  have : m' = m := funext fun v => funext fun ρ => funext fun h => e v ρ h
  rw [this]; exact h
theorem SPt.cong {es : List Expr} {m m' : Env → MH → Out Bool} (h : SPt L P G n es m) (e : ∀ ρ h, m' ρ h = m ρ h) : SPt L P G n es m' := by
  have : m' = m := funext fun ρ => funext fun h => e ρ h
  rw [this]; exact h
theorem chkTs_nil {xs : List Expr} (c : chkTs P G .nil xs = true) : xs = [] := by
  cases xs with
  | nil => rfl
  | cons _ _ => unfold chkTs at c; cases c
theorem chkTs_cons {t : MT} {ts : MTs} {xs : List Expr} (c : chkTs P G (.cons t ts) xs = true) : ∃ y ys, xs = y :: ys ∧ nostar y = true ∧ chkT P G t y = true ∧ chkTs P G ts ys = true := by
  cases xs with
  | nil => unfold chkTs at c; cases c
  | cons y ys =>
    unfold chkTs at c
    simp only [Bool.and_eq_true] at c
    exact ⟨y, ys, rfl, c.1, c.2.1, c.2.2⟩
theorem chkEs_nil {xs : List Expr} (c : chkEs P G .nil xs = true) : xs = [] := by
  cases xs with
  | nil => rfl
  | cons _ _ => unfold chkEs at c; cases c
theorem chkEs_cons {t : ME} {ts : MEs} {xs : List Expr} (c : chkEs P G (.cons t ts) xs = true) : ∃ y ys, xs = y :: ys ∧ nostar y = true ∧ chkE P G t y = true ∧ chkEs P G ts ys = true := by
  cases xs with
  | nil => unfold chkEs at c; cases c
  | cons y ys =>
    unfold chkEs at c
    simp only [Bool.and_eq_true] at c
    exact ⟨y, ys, rfl, c.1, c.2.1, c.2.2⟩
theorem chkEs_star : ∀ {ts : MEs} {xs : List Expr}, chkEs P G ts xs = true → xs.all nostar = true
  | .nil, xs, c => by rw [chkEs_nil c]; rfl
  | .cons t ts, xs, c => by
    obtain ⟨y, ys, rfl, h1, h2, h3⟩ := chkEs_cons c
    rw [List.all_cons, h1, chkEs_star h3]; rfl
theorem chkTs_star : ∀ {ts : MTs} {xs : List Expr}, chkTs P G ts xs = true → xs.all nostar = true
  | .nil, xs, c => by rw [chkTs_nil c]; rfl
  | .cons t ts, xs, c => by
    obtain ⟨y, ys, rfl, h1, h2, h3⟩ := chkTs_cons c
    rw [List.all_cons, h1, chkTs_star h3]; rfl
theorem asgs_len {C : Cfg} : ∀ (ts : MTs) (xs : List Expr) (vs : List MV) (ρ : Env) (h : MH), chkTs P G ts xs = true → asgs C ts vs ρ h ≠ .bad → vs.length = xs.length
  | .nil, xs, vs, ρ, h, c, e => by
    rw [chkTs_nil c]
    cases vs with
    | nil => rfl
    | cons _ _ => exact absurd (by unfold asgs; rfl) e
  | .cons t ts, xs, vs, ρ, h, c, e => by
    obtain ⟨y, ys, rfl, h1, h2, h3⟩ := chkTs_cons c
    cases vs with
    | nil => exact absurd (by unfold asgs; rfl) e
    | cons v vs =>
      unfold asgs at e
      cases q : asg C t v ρ h with
      | next ρ1 h1 =>
        rw [q] at e
        rw [List.length_cons, List.length_cons, asgs_len ts ys vs ρ1 h1 h3 e]
      | _ => rw [q] at e; exact absurd rfl e
end

section
variable (L : Lk) (P : Prog) (n : Nat)
mutual
theorem okE : ∀ (a : ME) (G : Sc) (e : Expr), chkE P G a e = true → SE L P G n e (ev (P.cfg (callM P n)) a) ∧ ST L P G n e (testM (ev (P.cfg (callM P n)) a))
  | .var i, G, e, h => by
    unfold chkE at h
    split at h
    · exact cong2 (both (fun _ _ => rfl) (se_var h)) fun ρ h => by rw [ev]
    · cases h
  | .non, G, e, h => by
    unfold chkE at h
    split at h
    · exact cong2 (both (fun _ _ => rfl) (se_cst fun X => ⟨.non, pe_non, fun _ _ _ => .non⟩)) fun ρ h => by rw [ev]
    · cases h
  | .bl b, G, e, h => by
    unfold chkE at h
    split at h
    · obtain rfl := of_decide_eq_true h
      exact cong2 (both (fun _ _ => rfl) (se_cst fun X => ⟨.bl b, pe_bl, fun _ _ _ => .bl _⟩)) fun ρ h => by rw [ev]
    · cases h
  | .int i, G, e, h => by
    unfold chkE at h
    split at h
    · obtain rfl := of_decide_eq_true h
      exact cong2 (both (fun _ _ => rfl) (se_cst fun X => ⟨.int i, pe_int, fun _ _ _ => .int _⟩)) fun ρ h => by rw [ev]
    · cases h
  | .str x, G, e, h => by
    unfold chkE at h
    split at h
    · obtain rfl := of_decide_eq_true h
      exact cong2 (both (fun _ _ => rfl) (se_cst fun X => ⟨.str x, pe_str, fun _ _ _ => .str _⟩)) fun ρ h => by rw [ev]
    · cases h
  | .glb x v, G, e, h => by
    unfold chkE at h
    split at h
    · simp only [Bool.and_eq_true, decide_eq_true_eq] at h
      obtain ⟨rfl, h1, h2⟩ := h
      exact cong2 (both (fun _ _ => rfl) (se_glb h1 h2)) fun ρ h => by rw [ev]
    · cases h
  | .bin op a b, G, e, h => by
    unfold chkE at h
    split at h
    · simp only [Bool.and_eq_true, decide_eq_true_eq] at h
      obtain ⟨rfl, h1, h2⟩ := h
      exact cong2 (both (fun _ _ => rfl) (se_bin (okE a G _ h1).1 (okE b G _ h2).1)) fun ρ h => by rw [ev]
    · cases h
  | .neg a, G, e, h => by
    unfold chkE at h
    split at h
    · exact cong2 (both (fun _ _ => rfl) (se_neg (okE a G _ h).1)) fun ρ h => by rw [ev]; try rfl
    · cases h
  | .cmp op a b, G, e, h => by
    unfold chkE at h
    split at h
    · simp only [Bool.and_eq_true, decide_eq_true_eq] at h
      obtain ⟨rfl, h1, h2, h3⟩ := h
      exact cong2 ⟨se_cmp h3 (okE a G _ h1).1 (okE b G _ h2).1, st_cmp h3 (okE a G _ h1).1 (okE b G _ h2).1⟩ fun ρ h => by rw [ev]
    · cases h
  | .chn o1 o2 a b c, G, e, h => by
    unfold chkE at h
    split at h
    · simp only [Bool.and_eq_true, decide_eq_true_eq] at h
      obtain ⟨rfl, rfl, h1, h2, h3, h4, h5⟩ := h
      exact cong2 ⟨se_chn h4 h5 (okE a G _ h1).1 (okE b G _ h2).1 (okE c G _ h3).1, st_chn h4 h5 (okE a G _ h1).1 (okE b G _ h2).1 (okE c G _ h3).1⟩ fun ρ h => by rw [ev]; try rfl
    · cases h
  | .bop op es, G, e, h => by
    unfold chkE at h
    split at h
    · simp only [Bool.and_eq_true, decide_eq_true_eq] at h
      obtain ⟨rfl, h1⟩ := h
      exact cong2 ⟨(okB es G _ op _ h1).1, sw_st (okB es G _ op _ h1).2⟩ fun ρ h => by rw [ev]
    · cases h
  | .not a, G, e, h => by
    unfold chkE at h
    split at h
    · exact cong2 ⟨se_not (okE a G _ h).1, st_not (okE a G _ h).2⟩ fun ρ h => by rw [ev]
    · cases h
  | .ifx c a b, G, e, h => by
    unfold chkE at h
    split at h
    · simp only [Bool.and_eq_true] at h
      obtain ⟨h1, h2, h3⟩ := h
      exact cong2 ⟨se_ifx (okE c G _ h1).2 (okE a G _ h2).1 (okE b G _ h3).1, st_ifx (okE c G _ h1).2 (okE a G _ h2).2 (okE b G _ h3).2⟩ fun ρ h => by rw [ev]; try rfl
    · cases h
  | .tup es, G, e, h => by
    unfold chkE at h
    split at h
    · exact cong2 (both (fun _ _ => rfl) (se_tup (okEs es G _ h))) fun ρ h => by rw [ev]
    · cases h
  | .lst es, G, e, h => by
    unfold chkE at h
    split at h
    · exact cong2 (both (fun _ _ => rfl) (se_lst (okEs es G _ h))) fun ρ h => by rw [ev]
    · cases h
  | .dic0, G, e, h => by
    unfold chkE at h
    split at h
    · exact cong2 (both (fun _ _ => rfl) se_dic0) fun ρ h => by rw [ev]
    · cases h
  | .dic1 k v, G, e, h => by
    unfold chkE at h
    split at h
    · simp only [Bool.and_eq_true] at h
      exact cong2 (both (fun _ _ => rfl) (se_dic1 (okE k G _ h.1).1 (okE v G _ h.2).1)) fun ρ h => by rw [ev]
    · cases h
  | .sub a i, G, e, h => by
    unfold chkE at h
    split at h
    · simp only [Bool.and_eq_true] at h
      exact cong2 (both (fun _ _ => rfl) (se_sub h.2.2 (okE a G _ h.1).1 (okE i G _ h.2.1).1)) fun ρ h => by rw [ev]
    · cases h
  | .slc a lo hi, G, e, h => by
    unfold chkE at h
    split at h
    · simp only [Bool.and_eq_true] at h
      exact cong2 (both (fun _ _ => rfl) (se_slc (okE a G _ h.1).1 (okO lo G _ h.2.1) (okO hi G _ h.2.2))) fun ρ h => by rw [ev]
    · cases h
  | .call x f es, G, e, h => by
    unfold chkE at h
    split at h
    · rename_i y p xs pos
      simp only [Bool.and_eq_true, decide_eq_true_eq] at h
      obtain ⟨rfl, h1, h2, h3⟩ := h
      have A := okEs es G _ h3
      cases es with
      | nil =>
        obtain rfl := chkEs_nil h3
        exact cong2 (both (fun _ _ => rfl) (se_call0 h1 h2)) fun ρ h => by rw [ev, evs]; rfl
      | cons a as =>
        obtain ⟨y, ys, rfl, g1, g2, g3⟩ := chkEs_cons h3
        exact cong2 (both (fun _ _ => rfl) (se_call h1 h2 g1 (chkEs_star g3) A)) fun ρ h => by rw [ev]; try rfl
    · cases h
  | .blt b es, G, e, h => by
    unfold chkE at h
    split at h
    · rename_i y p xs pos
      simp only [Bool.and_eq_true, decide_eq_true_eq] at h
      obtain ⟨rfl, h1, h2, h3, h4⟩ := h
      have A := okEs es G _ h3
      cases es with
      | nil =>
        obtain rfl := chkEs_nil h3
        cases h4
      | cons a as =>
        obtain ⟨y, ys, rfl, g1, g2, g3⟩ := chkEs_cons h3
        exact cong2 (both (fun _ _ => rfl) (se_blt h1 h2 g1 (chkEs_star g3) A)) fun ρ h => by rw [ev]
    · cases h
  | .mth a m es, G, e, h => by
    unfold chkE at h
    split at h
    · rename_i o y ap xs pos
      simp only [Bool.and_eq_true, decide_eq_true_eq] at h
      obtain ⟨rfl, h1, h2, h3, h4, h5, h6⟩ := h
      have A := okEs es G _ h2
      cases es with
      | nil =>
        obtain rfl := chkEs_nil h2
        cases h3
      | cons a' as =>
        obtain ⟨y, ys, rfl, g1, g2, g3⟩ := chkEs_cons h2
        exact cong2 (both (fun _ _ => rfl) (se_mth h4 h5 g1 (chkEs_star g3) (by rw [List.length_cons] at h6; omega) (okE a G _ h1).1 A)) fun ρ h => by rw [ev]
    · cases h
  | .lc a t it ifs own, G, e, h => by
    unfold chkE at h
    split at h
    · simp only [Bool.and_eq_true, decide_eq_true_eq, List.all_eq_true, List.contains_iff_mem] at h
      obtain ⟨rfl, h1, h2, h3, h4, h5, h6, h7, h8⟩ := h
      exact cong2 (both (fun _ _ => rfl) (se_lc h1 h3 h5 (okI it G _ h2) (okT t _ _ h4) (okA ifs _ _ h6 h7) (okE a _ _ h8).1)) fun ρ h => by rw [ev]; try rfl
    · cases h
theorem okB : ∀ (es : MEs) (G : Sc) (xs : List Expr) (op : BoolOp) (pos : Pos), chkEs P G es xs = true → SE L P G n (.BoolOp op xs pos) (evB (P.cfg (callM P n)) op es) ∧ SW L P G n (.BoolOp op xs pos) (testM (evB (P.cfg (callM P n)) op es))
  | .nil, G, xs, op, pos, h => ⟨se_bad fun ρ h => by rw [evB], sw_bad fun ρ h => by rw [evB]⟩
  | .cons a .nil, G, xs, op, pos, h => by
    obtain ⟨y, ys, rfl, g1, g2, g3⟩ := chkEs_cons h
    obtain rfl := chkEs_nil g3
    have A := okE a G _ g2
    have q : evB (P.cfg (callM P n)) op (.cons a .nil) = ev (P.cfg (callM P n)) a := by funext ρ h; rw [evB]
    rw [q]
    exact ⟨se_b1 A.1, sw_b1 A.2⟩
  | .cons a (.cons b bs), G, xs, op, pos, h => by
    obtain ⟨y, ys, rfl, g1, g2, g3⟩ := chkEs_cons h
    have A := okE a G _ g2
    have B := okB (.cons b bs) G _ op pos g3
    obtain ⟨z, zs, rfl, _, _, _⟩ := chkEs_cons g3
    have q : evB (P.cfg (callM P n)) op (.cons a (.cons b bs)) = bopM op (ev (P.cfg (callM P n)) a) (evB (P.cfg (callM P n)) op (.cons b bs)) := by
      funext ρ h
      rw [evB]
      · rfl
      · intro z; cases z
    rw [q]
    exact ⟨se_bop A.1 B.1, sw_bop A.2 B.2⟩
theorem okA : ∀ (es : MEs) (G : Sc) (xs : List Expr), chkEs P G es xs = true → xs.length ≤ 1 → SPt L P G n xs (evA (P.cfg (callM P n)) es)
  | .nil, G, xs, h, hl => by
    obtain rfl := chkEs_nil h
    exact spt_nil.cong fun ρ h => by rw [evA]
  | .cons a .nil, G, xs, h, hl => by
    obtain ⟨y, ys, rfl, g1, g2, g3⟩ := chkEs_cons h
    obtain rfl := chkEs_nil g3
    refine (spt_one (okE a G _ g2).2).cong fun ρ h => ?_
    rw [evA]
    unfold testM
    congr 1
    funext v h1
    cases truth h1 v with
    | none => rfl
    | some c => cases c <;> first | rfl | (rw [evA]; rfl)
  | .cons a (.cons b bs), G, xs, h, hl => by
    obtain ⟨y, ys, rfl, g1, g2, g3⟩ := chkEs_cons h
    obtain ⟨z, zs, rfl, _, _, _⟩ := chkEs_cons g3
    simp at hl
theorem okEs : ∀ (es : MEs) (G : Sc) (xs : List Expr), chkEs P G es xs = true → SA L P G n xs (evs (P.cfg (callM P n)) es)
  | .nil, G, xs, h => by
    obtain rfl := chkEs_nil h
    exact sa_nil.cong fun ρ h => by rw [evs]
  | .cons a as, G, xs, h => by
    obtain ⟨y, ys, rfl, g1, g2, g3⟩ := chkEs_cons h
    exact (sa_cons g1 (okE a G _ g2).1 (okEs as G _ g3)).cong fun ρ h => by rw [evs]
theorem okO : ∀ (o : MOp) (G : Sc) (e : Option Expr), chkO P G o e = true → SO L P G n e (evO (P.cfg (callM P n)) o)
  | .none, G, e, h => by
    unfold chkO at h
    split at h
    · exact so_none.cong fun ρ h => by rw [evO]
    · cases h
  | .some a, G, e, h => by
    unfold chkO at h
    split at h
    · exact (so_some (okE a G _ h).1).cong fun ρ h => by rw [evO]; try rfl
    · cases h
theorem okI : ∀ (i : MI) (G : Sc) (e : Expr), chkI P G i e = true → SI L P G n e (evI (P.cfg (callM P n)) i)
  | .val a, G, e, h => by
    unfold chkI at h
    exact (si_val (okE a G _ h).1).cong fun ρ h => by rw [evI]
  | .rng .nil, G, e, h => by
    unfold chkI at h
    split at h
    · simp only [Bool.and_eq_true, decide_eq_true_eq] at h
      obtain ⟨rfl, h1, h2, h3, h4, h5⟩ := h
      obtain rfl := chkEs_nil h3
      simp at h4
    · cases h
  | .rng (.cons a .nil), G, e, h => by
    unfold chkI at h
    split at h
    · simp only [Bool.and_eq_true, decide_eq_true_eq] at h
      obtain ⟨rfl, h1, h2, h3, h4, h5⟩ := h
      obtain ⟨y, ys, rfl, g1, g2, g3⟩ := chkEs_cons h3
      obtain rfl := chkEs_nil g3
      exact (si_rng1 h1 h2 g1 (okE a G _ g2).1).cong fun ρ h => by
        rw [evI, evs, Out.bind_bind]
        congr 1
    · cases h
  | .rng (.cons a (.cons b .nil)), G, e, h => by
    unfold chkI at h
    split at h
    · simp only [Bool.and_eq_true, decide_eq_true_eq] at h
      obtain ⟨rfl, h1, h2, h3, h4, h5⟩ := h
      obtain ⟨y, ys, rfl, g1, g2, g3⟩ := chkEs_cons h3
      obtain ⟨z, zs, rfl, k1, k2, k3⟩ := chkEs_cons g3
      obtain rfl := chkEs_nil k3
      exact (si_rng2 h1 h2 g1 k1 (okE a G _ g2).1 (okE b G _ k2).1).cong fun ρ h => by
        rw [evI, evs, Out.bind_bind]
        congr 1
        funext v h1
        rw [evs, Out.bind_bind, Out.bind_bind]
        congr 1
    · cases h
  | .rng (.cons a (.cons b (.cons c cs))), G, e, h => by
    unfold chkI at h
    split at h
    · simp only [Bool.and_eq_true, decide_eq_true_eq] at h
      obtain ⟨rfl, h1, h2, h3, h4, h5⟩ := h
      obtain ⟨y, ys, rfl, g1, g2, g3⟩ := chkEs_cons h3
      obtain ⟨z, zs, rfl, k1, k2, k3⟩ := chkEs_cons g3
      obtain ⟨z, zs, rfl, k1, k2, k3⟩ := chkEs_cons k3
      simp at h5
    · cases h
theorem okT : ∀ (t : MT) (G : Sc) (e : Expr), chkT P G t e = true → SG L P G n e t.slots (asg (P.cfg (callM P n)) t)
  | .name i, G, e, h => by
    unfold chkT at h
    split at h
    · exact (sg_name h).cong fun v ρ h => by rw [asg]
    · cases h
  | .tup ts, G, e, h => by
    unfold chkT at h
    split at h
    · have A := okTs ts G _ h
      exact (sg_tup (chkTs_star h) (fun vs ρ h0 q => asgs_len ts _ vs ρ h0 h q) A).cong fun v ρ h => by cases v <;> first | rfl | rw [asg]
    · cases h
  | .sub a i, G, e, h => by
    unfold chkT at h
    split at h
    · simp only [Bool.and_eq_true] at h
      exact (sg_sub h.2.2 (okE a G _ h.1).1 (okE i G _ h.2.1).1).cong fun v ρ h => by rw [asg]; try rfl
    · cases h
theorem okTs : ∀ (ts : MTs) (G : Sc) (xs : List Expr), chkTs P G ts xs = true → SGs L P G n xs (MT.slots.go ts) (asgs (P.cfg (callM P n)) ts)
  | .nil, G, xs, h => by
    obtain rfl := chkTs_nil h
    exact sgs_nil.cong fun v ρ h => by cases v <;> (unfold asgs; rfl)
  | .cons t ts, G, xs, h => by
    obtain ⟨y, ys, rfl, g1, g2, g3⟩ := chkTs_cons h
    exact (sgs_cons g1 (okT t G _ g2) (okTs ts G _ g3)).cong fun v ρ h => by
      cases v with
      | nil => unfold asgs; rfl
      | cons v vs => rw [asgs]; try rfl
end
end
end Mi

set_option Elab.async false
set_option linter.all false
set_option maxRecDepth 100000
set_option maxHeartbeats 2000000
/-! Snd12: statements. -/
namespace Mi
open PySem PySem.Spec PyProof.Rows L2
/-- the end of a statement -/
def FinX (D : Dm) (W : WX) (φ : List Addr) (H : Hp) (E : Ends) : SOut → Prop
  | .next ρ' h' => ∀ φ' H' σ', Ext D φ φ' H H' → Rep D φ' h' H' → ER D φ' H' ρ' σ' → E.nx σ' H'
  | .brk ρ' h' => ∀ φ' H' σ', Ext D φ φ' H H' → Rep D φ' h' H' → ER D φ' H' ρ' σ' → E.bk σ' H'
  | .cnt ρ' h' => ∀ φ' H' σ', Ext D φ φ' H H' → Rep D φ' h' H' → ER D φ' H' ρ' σ' → E.ct σ' H'
  | .ret v h' => ∀ φ' H' x, Ext D φ φ' H H' → Rep D φ' h' H' → VR D φ' H' v x → E.rt x H'
  | .exc c fs ρ' h' => ∀ φ' H' σ' d, Ext D φ φ' H H' → Rep D φ' h' H' → ER D φ' H' ρ' σ' → XR D φ' H' fs d → W (.ref (D.ca c)) d σ' H'
  | .bad => False
def tS (D : Dm) (W : WX) (m : Env → MH → SOut) : TS := fun E σ H => ∃ φ h ρ, Rep D φ h H ∧ ER D φ H ρ σ ∧ FinX D W φ H E (m ρ h)
def SS (L : Lk) (P : Prog) (G : Sc) (n : Nat) (st : Stmt) (m : Env → MH → SOut) : Prop := ∀ (X : Cx) (W : WX), XOk L P G n X → Takes X W → PassesOwn (model X.prog X.w) X.A X.env X.xe → PS X st (tS (dm X L.ca) W m)
def SSs (L : Lk) (P : Prog) (G : Sc) (n : Nat) (st : List Stmt) (m : Env → MH → SOut) : Prop := ∀ (X : Cx) (W : WX), XOk L P G n X → Takes X W → PassesOwn (model X.prog X.w) X.A X.env X.xe → PSs X st (tS (dm X L.ca) W m)
/-- an outcome, then a statement's end -/
def Out.thenS {α : Type} (o : Out α) (ρ : Env) (k : α → MH → SOut) : SOut := match o with
  | .ok v h1 => k v h1
  | .exc c fs h1 => .exc c fs ρ h1
  | .bad => .bad
def SOut.seq (o : SOut) (k : Env → MH → SOut) : SOut := match o with
  | .next ρ1 h1 => k ρ1 h1
  | o => o
section
variable {D : Dm} {W : WX} {φ φ' : List Addr} {H H' : Hp} {E : Ends} {ρ : Env} {σ : St} {h : MH}
theorem FinX.mono {o : SOut} (f : FinX D W φ H E o) (p : Ext D φ φ' H H') : FinX D W φ' H' E o := by
  cases o with
  | next ρ' h' => exact fun φ2 H2 x p2 => f φ2 H2 x (p.trans p2)
  | brk ρ' h' => exact fun φ2 H2 x p2 => f φ2 H2 x (p.trans p2)
  | cnt ρ' h' => exact fun φ2 H2 x p2 => f φ2 H2 x (p.trans p2)
  | ret v h' => exact fun φ2 H2 x p2 => f φ2 H2 x (p.trans p2)
  | exc c fs ρ' h' => exact fun φ2 H2 x d p2 => f φ2 H2 x d (p.trans p2)
  | bad => exact f
theorem FinX.first {α β : Type} {R : List Addr → Hp → α → β → Prop} {o : Out α} {k : α → MH → SOut} (f : FinX D W φ H E (o.thenS ρ k)) (er : ER D φ H ρ σ) :
    Fin D W R σ φ H (fun x H1 => ∃ φ1 h1 v, o = .ok v h1 ∧ Ext D φ φ1 H H1 ∧ Rep D φ1 h1 H1 ∧ R φ1 H1 v x ∧ FinX D W φ1 H1 E (k v h1)) o := by
  cases o with
  | ok v h1 => exact fun φ1 H1 x p r s => ⟨φ1, h1, v, rfl, p, r, s, FinX.mono (show FinX D W φ H E (k v h1) from f) p⟩
  | exc c fs h1 => exact fun φ1 H1 d p r x => f φ1 H1 σ d p r (er.ext p) x
  | bad => exact f
theorem FinX.seq {o : SOut} {k : Env → MH → SOut} (f : FinX D W φ H E (o.seq k)) : FinX D W φ H { E with nx := tS D W k E } o := by
  cases o with
  | next ρ' h' => exact fun φ1 H1 σ1 p r e => ⟨φ1, h', ρ', r, e, FinX.mono (show FinX D W φ H E (k ρ' h') from f) p⟩
  | brk ρ' h' => exact f
  | cnt ρ' h' => exact f
  | ret v h' => exact f
  | exc c fs ρ' h' => exact f
  | bad => exact f
theorem FinX.imp {o : SOut} {E' : Ends} (f : FinX D W φ H E o) (h1 : ∀ σ H, E.nx σ H → E'.nx σ H) (h2 : ∀ σ H, E.bk σ H → E'.bk σ H) (h3 : ∀ σ H, E.ct σ H → E'.ct σ H) (h4 : ∀ v H, E.rt v H → E'.rt v H) : FinX D W φ H E' o := by
  cases o with
  | next ρ' h' => exact fun φ1 H1 σ1 p r e => h1 _ _ (f φ1 H1 σ1 p r e)
  | brk ρ' h' => exact fun φ1 H1 σ1 p r e => h2 _ _ (f φ1 H1 σ1 p r e)
  | cnt ρ' h' => exact fun φ1 H1 σ1 p r e => h3 _ _ (f φ1 H1 σ1 p r e)
  | ret v h' => exact fun φ1 H1 σ1 p r e => h4 _ _ (f φ1 H1 σ1 p r e)
  | exc c fs ρ' h' => exact f
  | bad => exact f
/-- a store's end -/
theorem FinX.asg {o : SOut} {ss : List Nat} (f : FinX D W φ H E o) (hn : ∀ v h1, o ≠ .ret v h1) (hb : ∀ ρ h1, o ≠ .brk ρ h1) (hc : ∀ ρ h1, o ≠ .cnt ρ h1) : FinA D W ss σ φ H E.nx o := by
  cases o with
  | next ρ' h' => exact fun φ1 H1 σ1 p r e _ => f φ1 H1 σ1 p r e
  | brk ρ' h' => exact absurd rfl (hb _ _)
  | cnt ρ' h' => exact absurd rfl (hc _ _)
  | ret v h' => exact absurd rfl (hn _ _)
  | exc c fs ρ' h' => exact f
  | bad => exact f
end
/-- a store neither returns nor breaks -/
def Tame (o : SOut) : Prop := (∀ v h1, o ≠ .ret v h1) ∧ (∀ ρ h1, o ≠ .brk ρ h1) ∧ ∀ ρ h1, o ≠ .cnt ρ h1
mutual
theorem asg_tame (C : Cfg) : ∀ (t : MT) (v : MV) (ρ : Env) (h : MH), Tame (asg C t v ρ h)
  | .name i, v, ρ, h => by unfold asg; exact ⟨fun _ _ => by simp, fun _ _ => by simp, fun _ _ => by simp⟩
  | .tup ts, v, ρ, h => by
    unfold asg
    cases v with
    | tup xs => exact asgs_tame C ts xs ρ h
    | _ => exact ⟨fun _ _ => by simp, fun _ _ => by simp, fun _ _ => by simp⟩
  | .sub a i, v, ρ, h => by
    unfold asg
    split
    · split
      · split <;> exact ⟨fun _ _ => by simp, fun _ _ => by simp, fun _ _ => by simp⟩
      · exact ⟨fun _ _ => by simp, fun _ _ => by simp, fun _ _ => by simp⟩
      · exact ⟨fun _ _ => by simp, fun _ _ => by simp, fun _ _ => by simp⟩
    · exact ⟨fun _ _ => by simp, fun _ _ => by simp, fun _ _ => by simp⟩
    · exact ⟨fun _ _ => by simp, fun _ _ => by simp, fun _ _ => by simp⟩
theorem asgs_tame (C : Cfg) : ∀ (t : MTs) (v : List MV) (ρ : Env) (h : MH), Tame (asgs C t v ρ h)
  | .nil, v, ρ, h => by
    cases v with
    | nil => unfold asgs; exact ⟨fun _ _ => by simp, fun _ _ => by simp, fun _ _ => by simp⟩
    | cons _ _ => unfold asgs; exact ⟨fun _ _ => by simp, fun _ _ => by simp, fun _ _ => by simp⟩
  | .cons t ts, v, ρ, h => by
    cases v with
    | nil => unfold asgs; exact ⟨fun _ _ => by simp, fun _ _ => by simp, fun _ _ => by simp⟩
    | cons v vs =>
      rw [asgs]
      cases q : asg C t v ρ h with
      | next ρ1 h1 => exact asgs_tame C ts vs ρ1 h1
      | _ => exact ⟨fun _ _ => by simp, fun _ _ => by simp, fun _ _ => by simp⟩
end
section
variable {L : Lk} {P : Prog} {G : Sc} {n : Nat} {e tg l : Expr} {pos : Pos} {m ma mb mc : Env → MH → Out MV} {st : Stmt} {sts : List Stmt} {ms ms' : Env → MH → SOut}
theorem ss_exp (hc : nocomp e = true) (ha : SE L P G n e m) : SS L P G n (.Expr e pos) (fun ρ h => (m ρ h).thenS ρ fun _ h1 => .next ρ h1) := fun X W k tk ps => ⟨fun pins s σ H D I ⟨φ, h0, ρ, rp, er, f⟩ =>
  (ps_expr (ha X W k tk) (by cases e <;> first | rfl | cases hc)).run pins s σ H D I ⟨φ, h0, ρ, rp, er, (f.first er).imp fun x H1 ⟨φ1, h1, v, _, p1, rp1, w1, f1⟩ => f1 φ1 H1 σ Ext.refl rp1 (er.ext p1)⟩⟩
theorem ss_next (h : ∀ X, PS X st tNext) : SS L P G n st (fun ρ h => .next ρ h) := fun X W k tk ps => ⟨fun pins s σ H D I ⟨φ, h0, ρ, rp, er, f⟩ => (h X).run pins s σ H D I (f φ H σ Ext.refl rp er)⟩
theorem ss_brk : SS L P G n (.Break pos) (fun ρ h => .brk ρ h) := fun X W k tk ps => ⟨fun pins s σ H D I ⟨φ, h0, ρ, rp, er, f⟩ => ps_break.run pins s σ H D I (f φ H σ Ext.refl rp er)⟩
theorem ss_cnt : SS L P G n (.Continue pos) (fun ρ h => .cnt ρ h) := fun X W k tk ps => ⟨fun pins s σ H D I ⟨φ, h0, ρ, rp, er, f⟩ => ps_continue.run pins s σ H D I (f φ H σ Ext.refl rp er)⟩
theorem ss_retN : SS L P G n (.Return none pos) (fun _ h => .ret .non h) := fun X W k tk ps => ⟨fun pins s σ H D I ⟨φ, h0, ρ, rp, er, f⟩ => ps_retN.run pins s σ H D I (f φ H _ Ext.refl rp .non)⟩
theorem ss_ret (ha : SE L P G n e m) : SS L P G n (.Return (some e) pos) (fun ρ h => (m ρ h).thenS ρ fun v h1 => .ret v h1) := fun X W k tk ps => ⟨fun pins s σ H D I ⟨φ, h0, ρ, rp, er, f⟩ =>
  (ps_ret (ha X W k tk)).run pins s σ H D I ⟨φ, h0, ρ, rp, er, (f.first er).imp fun x H1 ⟨φ1, h1, v, _, p1, rp1, w1, f1⟩ => f1 φ1 H1 x Ext.refl rp1 w1⟩⟩
/-- a comprehension's value goes straight to its name -/
def swC (G : Sc) (tg e : Expr) : Bool := match e with
  | .ListComp _ _ s p => (match tg with
    | .Name t tp => decide (G.sc.names.lookup t = some .local) && ((tp.line == p.line) && !(s.names.any fun (n, k) => n == t && (k == .local || k == .cell)))
    | _ => false)
  | .SetComp .. => true
  | .DictComp .. => true
  | _ => false
theorem sw_false {X : Cx} {l0 : Nat} (hk : X.env.scope.kind = .function) (hs : X.env.scope = G.sc) (h : swC G tg e = false) : swapsWithSole [tg] e l0 X.env = pure false := by
  have hb : X.env.blockKind = .function := by unfold Env.blockKind; rw [hk]; rfl
  show swapsWith e (some tg) l0 X.env = pure false
  cases e with
  | ListComp el gs s p =>
    cases tg with
    | Name t tp =>
      unfold swC at h
      dsimp only at h
      unfold swapsWith
      rw [← hs] at h
      have e1 : X.env.kindOf t = X.env.scope.names.lookup t := rfl
      simp only [hb, e1, Expr.pos]
      by_cases q : X.env.scope.names.lookup t = some .local
      · rw [q] at h ⊢
        have h' : ((tp.line == p.line) && !(s.names.any fun (n, k) => n == t && (k == .local || k == .cell))) = false := by simpa using h
        show (pure _ : Sem Bool) = _
        congr 1
      · have q' : (X.env.scope.names.lookup t == some NameKind.local) = false := by
          cases z : (X.env.scope.names.lookup t == some NameKind.local) with
          | false => rfl
          | true => exact absurd (by simpa using z) q
        rw [q']
        rfl
    | _ => rfl
  | SetComp _ _ _ _ => cases h
  | DictComp _ _ _ _ _ => cases h
  | _ => rfl
theorem ss_asg {ss : List Nat} {g : MV → Env → MH → SOut} (h1 : swC G tg e = false) (h2 : nostar tg = true) (h3 : (notup tg || notup e) = true) (ht : ∀ v ρ h, Tame (g v ρ h)) (ha : SE L P G n e m) (hg : SG L P G n tg ss g) : SS L P G n (.Assign [tg] e pos) (fun ρ h => (m ρ h).thenS ρ fun v h1 => g v ρ h1) := fun X W k tk ps => ⟨fun pins s σ H D I ⟨φ, h0, ρ, rp, er, f⟩ => by
  refine (ps_asg (ha X W k tk) (hg X W k tk) (sw_false I.ok.kind k.sc h1) ?_ (by rw [each_cons h2]; rfl)).run pins s σ H D I ⟨φ, h0, ρ, rp, er, (f.first er).imp fun x H1 ⟨φ1, h1, v, _, p1, rp1, w1, f1⟩ => ⟨φ1, h1, ρ, v, rp1, er.ext p1, w1, f1.asg (ht v ρ h1).1 (ht v ρ h1).2.1 (ht v ρ h1).2.2⟩⟩
  cases tg <;> first | rfl | (cases e <;> first | rfl | cases h3)⟩
theorem ss_setLc {i : Nat} {y : Str} {py spos : Pos} {elt tg iter : Expr} {ifs : List Expr} {scope : Scope} {own : List (Str × Nat)} {pos : Pos} {mi : Env → MH → Out Mi.It} {g : MV → Env → MH → SOut} {mt : Env → MH → Out Bool} {me : Env → MH → Out MV} {ss : List Nat} (hs : swC G (.Name y py) (.ListComp elt [⟨tg, iter, ifs, 0⟩] scope pos) = true) (hl : G.loc i y = true)
    (hb : blkC G.N G.sc scope own = true) (hn : noset iter = true) (hss : ∀ j ∈ ss, j ∈ own.map (·.2))
    (hi : SI L P G n iter mi) (hg : SG L P ⟨G.N, relS scope G.sc, some scope⟩ n tg ss g) (ht : SPt L P ⟨G.N, relS scope G.sc, some scope⟩ n ifs mt) (he : SE L P ⟨G.N, relS scope G.sc, some scope⟩ n elt me) :
    SS L P G n (.Assign [.Name y py] (.ListComp elt [⟨tg, iter, ifs, 0⟩] scope pos) spos) (fun ρ h => (lcR mi g mt me (own.map (·.2)) P.fuel ρ h).thenS ρ fun v h1 => .next (ρ.set i (some v)) h1) := fun X W k tk ps => ⟨fun pins s σ H D I ⟨φ, h0, ρ, rp, er, f⟩ => by
  have hb' : blkC X.N X.env.scope scope own = true := by rw [k.N, k.sc]; exact hb
  obtain ⟨g1, g2, g3⟩ := k.loc hl
  unfold swC at hs
  dsimp only at hs
  simp only [Bool.and_eq_true, decide_eq_true_eq, Bool.not_eq_true'] at hs
  have hy : X.env.scope.names.lookup y = some .local := by rw [k.sc]; exact hs.1
  refine (ps_setLc (spos := spos) (te := tE (dm X L.ca) Wn me) (tt := tT (dm X L.ca) Wn mt) (g := tGm (dm X L.ca) Wn ss g) k.calm k.nd g1 hy (sw_true I.ok.kind hy hs.2.1 hs.2.2) (hi X W tg k tk) (blkOk_by hb') (fun s H C cl fp => hg _ Wn (k.blk s H scope cl C fp) takesN) (fun s H C cl fp => ht _ Wn (k.blk s H scope cl C fp) takesN) (fun s H C cl fp => he _ Wn (k.blk s H scope cl C fp) takesN) (fun x => set_of hn)).run pins s σ H D I ?_
  show tLc _ _ _ _ _ σ H (fun x H1 => gName i x σ H1 D.nx)
  exact lc_rd hss ⟨φ, h0, ρ, rp, er, (f.first er).imp fun x H1 ⟨φ1, h1, v, _, p1, rp1, w1, f1⟩ => f1 φ1 H1 _ Ext.refl rp1 ((er.ext p1).set i w1)⟩⟩
def ipM (op : Operator) : TIp := fun x y H Q => (∃ i j, x = .int i ∧ y = .int j ∧ ((op = .Add ∧ Q (.int (i + j)) H) ∨ (op = .Sub ∧ Q (.int (i - j)) H))) ∨ ∃ i j, x = .str i ∧ y = .str j ∧ op = .Add ∧ i.length + j.length ≤ sizeLine ∧ Q (.str (i ++ j)) H
theorem ip_M {X : Cx} {op : Operator} : PIp X op (ipM op) := fun pins s σ H x y v u Q I r1 r2 h => by
  rcases h with ⟨i, j, e1, e2, ⟨rfl, q⟩ | ⟨rfl, q⟩⟩ | ⟨i, j, e1, e2, rfl, hz, q⟩
  · exact ip_add pins s σ H x y v u Q I r1 r2 ⟨i, j, e1, e2, q⟩
  · exact ip_sub pins s σ H x y v u Q I r1 r2 ⟨i, j, e1, e2, q⟩
  · exact iop_add_str pins s σ H x y v u Q I r1 r2 ⟨i, j, e1, e2, hz, q⟩
theorem ss_aug {i : Nat} {x : Str} {op : Operator} {px : Pos} (hl : G.loc i x = true) (ha : SE L P G n e m) : SS L P G n (.AugAssign (.Name x px) op e pos) (fun ρ h => match slotO ρ i with
    | some v => (m ρ h).thenS ρ fun w h1 => (augM op v w h1).thenS ρ fun z h2 => .next (ρ.set i (some z)) h2
    | none => .bad) := fun X W k tk ps => ⟨fun pins s σ H D I ⟨φ, h0, ρ, rp, er, f⟩ => by
  obtain ⟨g1, g2, g3⟩ := k.loc hl
  dsimp only at f
  cases q : slotO ρ i with
  | none => rw [q] at f; exact f.elim
  | some v =>
    rw [q] at f
    have e' : ρ[i]? = some (some v) := by
      unfold slotO at q
      split at q
      · rename_i q'; cases q; exact q'
      · cases q
    obtain ⟨y, hy, w⟩ := er.at_ i v e'
    refine (ps_aug k.nd g1 g2 (ha X W k tk) ip_M g3).run pins s σ H D I ⟨y, hy, φ, h0, ρ, rp, er, (FinX.first f er).imp fun x H1 ⟨φ1, h1, u, _, p1, rp1, w1, f1⟩ => ?_⟩
    have w := w.ext p1
    have er1 := er.ext p1
    have fin : ∀ {z : MV} {y' : V}, augM op v u h1 = .ok z h1 → VR (dm X L.ca) φ1 H1 z y' → D.nx (σ.set i (some y')) H1 := fun {z y'} ez wz => by
      rw [ez] at f1
      exact f1 φ1 H1 _ Ext.refl rp1 (er1.set i wz)
    cases op with
    | Add =>
      cases w with
      | int a => cases w1 with
        | int b => exact .inl ⟨a, b, rfl, rfl, .inl ⟨rfl, fin rfl (.int _)⟩⟩
        | _ => exact f1.elim
      | str a => cases w1 with
        | str b =>
          by_cases hz : a.length + b.length ≤ line
          · exact .inr ⟨a, b, rfl, rfl, rfl, by rw [← line_eq]; exact hz, fin (by unfold augM; dsimp only; rw [if_pos hz]) (.str _)⟩
          · have f1 : FinX (dm X L.ca) W φ1 H1 D ((if a.length + b.length ≤ line then Out.ok (.str (a ++ b)) h1 else .bad).thenS ρ fun z h2 => .next (ρ.set i (some z)) h2) := f1
            rw [if_neg hz] at f1
            exact f1.elim
        | _ => exact f1.elim
      | _ => exact f1.elim
    | Sub =>
      cases w with
      | int a => cases w1 with
        | int b => exact .inl ⟨a, b, rfl, rfl, .inr ⟨rfl, fin rfl (.int _)⟩⟩
        | _ => exact f1.elim
      | _ => exact f1.elim
    | _ => exact f1.elim⟩
theorem sss_nil : SSs L P G n [] (fun ρ h => .next ρ h) := fun X W k tk ps => ⟨fun pins s σ H D I ⟨φ, h0, ρ, rp, er, f⟩ => pss_nil.run pins s σ H D I (f φ H σ Ext.refl rp er)⟩
theorem sss_cons (h1 : SS L P G n st ms) (h2 : SSs L P G n sts ms') : SSs L P G n (st :: sts) (fun ρ h => (ms ρ h).seq ms') := fun X W k tk ps => ⟨fun pins s σ H D I ⟨φ, h0, ρ, rp, er, f⟩ =>
  (pss_cons (h1 X W k tk ps) (h2 X W k tk ps)).run pins s σ H D I ⟨φ, h0, ρ, rp, er, FinX.seq f⟩⟩
theorem ss_if {a b : List Stmt} {mt : Env → MH → Out Bool} (hc : ST L P G n e mt) (ha : SSs L P G n a ms) (hb : SSs L P G n b ms') : SS L P G n (.If e a b pos) (fun ρ h => (mt ρ h).thenS ρ fun c h1 => if c then ms ρ h1 else ms' ρ h1) := fun X W k tk ps => ⟨fun pins s σ H D I ⟨φ, h0, ρ, rp, er, f⟩ => by
  refine (ps_if (hc X W k tk) (ha X W k tk ps) (hb X W k tk ps)).run pins s σ H D I ⟨φ, h0, ρ, rp, er, (f.first er).imp fun x H1 ⟨φ1, h1, c, _, p1, rp1, w1, f1⟩ => ?_⟩
  have w1 : c = x := w1
  subst w1
  cases c with
  | true => rw [if_pos rfl]; exact ⟨φ1, h1, ρ, rp1, er.ext p1, f1⟩
  | false => rw [if_neg Bool.false_ne_true]; exact ⟨φ1, h1, ρ, rp1, er.ext p1, f1⟩⟩
theorem whileM_succ {c : Env → MH → Out Bool} {b : Env → MH → SOut} {m : Nat} {ρ : Env} {h : MH} : whileM c b (m + 1) ρ h = (c ρ h).thenS ρ fun t h1 => if t then (match b ρ h1 with
      | .next ρ2 h2 => whileM c b m ρ2 h2
      | .cnt ρ2 h2 => whileM c b m ρ2 h2
      | .brk ρ2 h2 => .next ρ2 h2
      | o => o) else .next ρ h1 := by
  rw [whileM]
  cases c ρ h with
  | ok t h1 => cases t <;> rfl
  | exc _ _ _ => rfl
  | bad => rfl
theorem FinX.loop {D : Dm} {W : WX} {φ : List Addr} {H : Hp} {E : Ends} {o : SOut} {k : Env → MH → SOut} (f : FinX D W φ H E (match o with
      | .next ρ2 h2 => k ρ2 h2
      | .cnt ρ2 h2 => k ρ2 h2
      | .brk ρ2 h2 => .next ρ2 h2
      | o => o)) {N : St → Hp → Prop} (hN : ∀ φ' h' ρ' σ' H', Ext D φ φ' H H' → Rep D φ' h' H' → ER D φ' H' ρ' σ' → FinX D W φ' H' E (k ρ' h') → N σ' H') : FinX D W φ H { E with nx := N, ct := N, bk := E.nx } o := by
  cases o with
  | next ρ' h' => exact fun φ1 H1 σ1 p r e => hN φ1 h' ρ' σ1 H1 p r e (FinX.mono (show FinX D W φ H E (k ρ' h') from f) p)
  | cnt ρ' h' => exact fun φ1 H1 σ1 p r e => hN φ1 h' ρ' σ1 H1 p r e (FinX.mono (show FinX D W φ H E (k ρ' h') from f) p)
  | brk ρ' h' => exact f
  | ret v h' => exact f
  | exc c fs ρ' h' => exact f
  | bad => exact f
theorem ss_while {mt : Env → MH → Out Bool} {fuel : Nat} (hc : ST L P G n e mt) (hb : SSs L P G n sts ms) : SS L P G n (.While e sts [] pos) (fun ρ h => whileM mt ms fuel ρ h) := fun X W k tk ps => ⟨fun pins s σ H D I h => by
  refine (ps_while ps (hc X W k tk) (hb X W k tk ps)).run pins s σ H D I ⟨fun m σ H => tS (dm X L.ca) W (whileM mt ms m) D σ H, ⟨fuel, h⟩, ?_⟩
  rintro m σ H ⟨φ, h0, ρ, rp, er, f⟩
  cases m with
  | zero => exact f.elim
  | succ m =>
    rw [whileM_succ] at f
    refine ⟨φ, h0, ρ, rp, er, (f.first er).imp fun x H1 ⟨φ1, h1, c, _, p1, rp1, w1, f1⟩ => ?_⟩
    have w1 : c = x := w1
    subst w1
    cases c with
    | true =>
      rw [if_pos rfl]
      rw [if_pos rfl] at f1
      exact ⟨fun σ H => tS (dm X L.ca) W (whileM mt ms m) D σ H, fun σ' H' w => ⟨m, Nat.lt_succ_self _, w⟩, φ1, h1, ρ, rp1, er.ext p1, FinX.loop f1 fun φ' h' ρ' σ' H' p r e f => ⟨φ', h', ρ', r, e, f⟩⟩
    | false =>
      rw [if_neg Bool.false_ne_true]
      rw [if_neg Bool.false_ne_true] at f1
      exact f1 φ1 H1 σ Ext.refl rp1 (er.ext p1)⟩
theorem ss_for {mi : Env → MH → Out Mi.It} {g : MV → Env → MH → SOut} {fuel : Nat} {ss : List Nat} {iter : Expr} (hn : noset iter = true) (ht : ∀ v ρ h, Tame (g v ρ h)) (hi : SI L P G n iter mi) (hg : SG L P G n tg ss g) (hb : SSs L P G n sts ms) : SS L P G n (.For tg iter sts [] pos) (fun ρ h => (mi ρ h).thenS ρ fun I h1 => forM I g ms fuel 0 ρ h1) := fun X W k tk ps => ⟨fun pins s σ H D I ⟨φ, h0, ρ, rp, er, f⟩ => by
  refine (ps_for ps k.calm (hi X W tg k tk) (hg X W k tk) (hb X W k tk ps) (fun x => set_of hn)).run pins s σ H D I ⟨φ, h0, ρ, rp, er, (f.first er).imp fun J H1 ⟨φ1, h1, I, _, p1, rp1, ir, f1⟩ => ?_⟩
  refine ⟨fun i m σ' H' => ∃ φ' h' ρ', Ext (dm X L.ca) φ1 φ' H1 H' ∧ Rep (dm X L.ca) φ' h' H' ∧ ER (dm X L.ca) φ' H' ρ' σ' ∧ FinX (dm X L.ca) W φ' H' D (forM I g ms m i ρ' h'), ⟨fuel, φ1, h1, ρ, Ext.refl, rp1, er.ext p1, f1⟩, ?_⟩
  rintro i m σ' H' ⟨φ', h', ρ', x1, rp', er', f'⟩
  cases m with
  | zero => exact f'.elim
  | succ m =>
    obtain ⟨t1, t2⟩ := ir.turn x1 rp' i
    rw [forM] at f'
    cases ea : I.at_ i h' with
    | none => rw [ea] at f'; exact f'.elim
    | some o =>
      rw [ea] at f'
      cases o with
      | none => exact .inl ⟨t1 ea, f' φ' H' σ' Ext.refl rp' er'⟩
      | some v =>
        obtain ⟨t3, t4⟩ := t2 v ea
        refine .inr ⟨t3, fun σ' H' => ∃ φ' h' ρ', Ext (dm X L.ca) φ1 φ' H1 H' ∧ Rep (dm X L.ca) φ' h' H' ∧ ER (dm X L.ca) φ' H' ρ' σ' ∧ FinX (dm X L.ca) W φ' H' D (forM I g ms m (i + 1) ρ' h'), fun σ' H' w => ⟨m, Nat.lt_succ_self _, w⟩, fun x H2 hy => ?_⟩
        obtain ⟨φ2, x2, rp2, w2⟩ := t4 x H2 hy
        refine ⟨φ2, h', ρ', v, rp2, er'.ext x2, w2, ?_⟩
        have f' := FinX.mono f' x2
        dsimp only at f'
        cases eg : g v ρ' h' with
        | next ρ3 h3 =>
          rw [eg] at f'
          intro φ3 H3 σ3 x3 rp3 er3 off
          refine ⟨φ3, h3, ρ3, rp3, er3, FinX.loop (FinX.mono f' x3) fun φ' h' ρ' σ' H' p r e f => ⟨φ', h', ρ', ((x1.trans x2).trans x3).trans p, r, e, f⟩⟩
        | exc c fs ρ3 h3 => rw [eg] at f'; exact f'
        | ret v3 h3 => exact absurd eg ((ht v ρ' h').1 _ _)
        | brk ρ3 h3 => exact absurd eg ((ht v ρ' h').2.1 _ _)
        | cnt ρ3 h3 => exact absurd eg ((ht v ρ' h').2.2 _ _)
        | bad => rw [eg] at f'; exact f'.elim⟩
end

section
variable {L : Lk} {P : Prog} {G : Sc} {n : Nat} {st : Stmt} {sts : List Stmt} {ms ms' : Env → MH → SOut}
theorem SS.cong (h : SS L P G n st ms) (e : ∀ ρ h, ms' ρ h = ms ρ h) : SS L P G n st ms' := by
  have : ms' = ms := funext fun ρ => funext fun h => e ρ h
  rw [this]; exact h
theorem SSs.cong (h : SSs L P G n sts ms) (e : ∀ ρ h, ms' ρ h = ms ρ h) : SSs L P G n sts ms' := by
  have : ms' = ms := funext fun ρ => funext fun h => e ρ h
  rw [this]; exact h
end
theorem okSet (L : Lk) (P : Prog) (n : Nat) {G : Sc} {t : MT} {a : ME} {tg e : Expr} {pos : Pos} (h1 : chkT P G t tg = true) (h2 : chkE P G a e = true) (h3 : nostar tg = true) (h4 : (notup tg || notup e) = true) :
    SS L P G n (.Assign [tg] e pos) (fun ρ h => (ev (P.cfg (callM P n)) a ρ h).thenS ρ fun v h1 => asg (P.cfg (callM P n)) t v ρ h1) := by
  cases q : swC G tg e with
  | false => exact ss_asg q h3 h4 (fun v ρ h => asg_tame _ t v ρ h) (okE L P n a G e h2).1 (okT L P n t G tg h1)
  | true =>
    unfold swC at q
    split at q
    · rename_i el gs s p
      split at q
      · rename_i y py
        cases t with
        | name i =>
          unfold chkT at h1
          cases a with
          | lc a t it ifs own =>
            unfold chkE at h2
            split at h2
            · rename_i heq
              cases heq
              simp only [Bool.and_eq_true, decide_eq_true_eq, List.all_eq_true, List.contains_iff_mem] at h2
              obtain ⟨rfl, g1, g2, g3, g4, g5, g6, g7, g8⟩ := h2
              refine (ss_setLc (show swC G (.Name y py) _ = true from q) h1 g1 g3 g5 (okI L P n it G _ g2) (okT L P n t _ _ g4) (okA L P n ifs _ _ g6 g7) (okE L P n a _ _ g8).1).cong fun ρ h => ?_
              rw [ev]
              simp only [asg]
              rfl
            · cases h2
          | _ => unfold chkE at h2; cases h2
        | tup _ => unfold chkT at h1; cases h1
        | sub _ _ => unfold chkT at h1; cases h1
      · cases q
    · cases a <;> (unfold chkE at h2; cases h2)
    · cases a <;> (unfold chkE at h2; cases h2)
    · cases q
section
variable (L : Lk) (P : Prog) (n : Nat)
mutual
theorem okS : ∀ (a : MS) (G : Sc) (s : Stmt), chkS P G a s = true → SS L P G n s (ex (P.cfg (callM P n)) a)
  | .exp a, G, s, h => by
    unfold chkS at h
    split at h
    · simp only [Bool.and_eq_true] at h
      exact (ss_exp h.2 (okE L P n a G _ h.1).1).cong fun ρ h => by rw [ex]; generalize ev (P.cfg (callM P n)) a ρ h = o; cases o <;> rfl
    · cases h
  | .doc, G, s, h => by
    unfold chkS at h
    split at h
    · exact (ss_next fun X => ps_doc).cong fun ρ h => by rw [ex]
    · cases h
  | .ret a, G, s, h => by
    unfold chkS at h
    split at h
    · exact (ss_ret (okE L P n a G _ h).1).cong fun ρ h => by rw [ex]; generalize ev (P.cfg (callM P n)) a ρ h = o; cases o <;> rfl
    · cases h
  | .retN, G, s, h => by
    unfold chkS at h
    split at h
    · exact ss_retN.cong fun ρ h => by rw [ex]
    · cases h
  | .pass, G, s, h => by
    unfold chkS at h
    split at h
    · exact (ss_next fun X => ps_pass).cong fun ρ h => by rw [ex]
    · cases h
  | .brk, G, s, h => by
    unfold chkS at h
    split at h
    · exact ss_brk.cong fun ρ h => by rw [ex]
    · cases h
  | .cnt, G, s, h => by
    unfold chkS at h
    split at h
    · exact ss_cnt.cong fun ρ h => by rw [ex]
    · cases h
  | .asg t a, G, s, h => by
    unfold chkS at h
    split at h
    · simp only [Bool.and_eq_true] at h
      exact (okSet L P n h.1 h.2.1 h.2.2.1 h.2.2.2).cong fun ρ h => by rw [ex]; generalize ev (P.cfg (callM P n)) a ρ h = o; cases o <;> rfl
    · cases h
  | .aug i op a, G, s, h => by
    unfold chkS at h
    split at h
    · simp only [Bool.and_eq_true, decide_eq_true_eq] at h
      obtain ⟨rfl, h1, h2⟩ := h
      exact (ss_aug h1 (okE L P n a G _ h2).1).cong fun ρ h => by
        rw [ex]
        cases slotO ρ i with
        | none => rfl
        | some v =>
          dsimp only
          generalize ev (P.cfg (callM P n)) a ρ h = o
          cases o with
          | ok w h1 => dsimp only [Out.thenS]; generalize augM op v w h1 = o; cases o <;> rfl
          | exc _ _ _ => rfl
          | bad => rfl
    · cases h
  | .ifs c a b, G, s, h => by
    unfold chkS at h
    split at h
    · simp only [Bool.and_eq_true] at h
      refine (ss_if (okE L P n c G _ h.1).2 (okSs a G _ h.2.1) (okSs b G _ h.2.2)).cong fun ρ h => ?_
      rw [ex]
      show (match testM _ ρ h with
        | .ok true h1 => _
        | .ok false h1 => _
        | .exc k fs h1 => _
        | .bad => _) = _
      cases testM (ev (P.cfg (callM P n)) c) ρ h with
      | ok b h1 => cases b <;> rfl
      | exc _ _ _ => rfl
      | bad => rfl
    · cases h
  | .whl c b, G, s, h => by
    unfold chkS at h
    split at h
    · simp only [Bool.and_eq_true] at h
      exact (ss_while (okE L P n c G _ h.1).2 (okSs b G _ h.2)).cong fun ρ h => by rw [ex]; try rfl
    · cases h
  | .for_ t it b, G, s, h => by
    unfold chkS at h
    split at h
    · simp only [Bool.and_eq_true] at h
      exact (ss_for h.2.2.1 (fun v ρ h => asg_tame _ t v ρ h) (okI L P n it G _ h.2.1) (okT L P n t G _ h.1) (okSs b G _ h.2.2.2)).cong fun ρ h => by rw [ex]; generalize evI (P.cfg (callM P n)) it ρ h = o; cases o <;> rfl
    · cases h
theorem okSs : ∀ (a : MSs) (G : Sc) (s : List Stmt), chkSs P G a s = true → SSs L P G n s (exs (P.cfg (callM P n)) a)
  | .nil, G, s, h => by
    cases s with
    | nil => exact sss_nil.cong fun ρ h => by rw [exs]
    | cons _ _ => unfold chkSs at h; cases h
  | .cons a as, G, s, h => by
    cases s with
    | nil => unfold chkSs at h; cases h
    | cons st sts =>
      unfold chkSs at h
      simp only [Bool.and_eq_true] at h
      exact (sss_cons (okS a G st h.1) (okSs as G sts h.2)).cong fun ρ h => by
        rw [exs]
        cases ex (P.cfg (callM P n)) a ρ h <;> rfl
end
end
end Mi

set_option Elab.async false
set_option linter.all false
set_option maxRecDepth 100000
set_option maxHeartbeats 2000000
/-! Snd13: functions, the head. -/
namespace Mi
open PySem PySem.Spec PyProof.Rows L2
/-! ### functions -/
theorem startM_get {n i : Nat} {vs : List MV} {v : MV} (e : (startM n vs)[i]? = some (some v)) : vs[i]? = some v := by
  unfold startM at e
  by_cases hi : i < vs.length
  · rw [List.getElem?_append_left (by simpa using hi), List.getElem?_map] at e
    cases q : vs[i]? with
    | none => rw [q] at e; cases e
    | some a => rw [q] at e; cases e; rfl
  · rw [List.getElem?_append_right (by simpa using hi), List.getElem?_replicate] at e
    split at e <;> cases e
theorem er_start {D : Dm} {φ : List Addr} {H : Hp} {N : List Str} {args : List MV} {vs : List V} (w : VRs D φ H args vs) : ER D φ H (startM N.length args) (L2.start N vs) := by
  refine ⟨by unfold startM L2.start; simp [w.length], fun i v e => ?_⟩
  obtain ⟨x, h1, h2⟩ := w.get (startM_get e)
  refine ⟨x, ?_, h2⟩
  unfold L2.start
  have hi := (List.getElem?_eq_some_iff.mp h1).1
  rw [List.getElem?_append_left (by simpa using hi), List.getElem?_map, h1]
  rfl
structure FnT (L : Lk) (P : Prog) (f : Nat) (F : Fn) : Prop where
  fn : ∃ params body scope, FunD L.K F.name F.qual params body scope [] [] (L.fa f) (L.fd f) ∧ FnScope F.N F.params scope ∧ chkSs P ⟨F.N, scope, none⟩ F.body body = true
  kp : PySem.W.keepIn L.K (.ref (L.fa f)) = true
  bnd : Binds L.K (L.fd f) F.params []
  at_ : ∀ x, F.at_ = (x, none) → L.mg x = some (.ref (L.fa f))
structure TxtOk (L : Lk) (P : Prog) : Prop where
  glb : ∀ p ∈ P.glb, GlbOk L p.1 p.2
  free : ∀ x ∈ P.free, L.mg x = none
  kit : ∀ (t : Ty) j, j < P.cls.length → PySem.W.kitOne L.K (.type t.nm) (.ref (L.ca j)) = some false
  fn : ∀ f F, P.fns[f]? = some F → FnT L P f F
theorem spM_len {L : Lk} {P : Prog} {n f : Nat} {F : Fn} (hF : P.fns[f]? = some F) (vs : List V) (H : Hp) (Q : VK) (E : XK) (h : spM L P n f vs H Q E) : vs.length = F.params.length := by
  obtain ⟨_, _, _, _, _, ⟨F', h1, h2⟩, _⟩ := h
  rw [hF] at h1; cases h1
  exact h2
theorem lk_ok {L : Lk} {P : Prog} (T : TxtOk L P) : ∀ n, LkOk L P n
  | 0 => ⟨T.glb, T.free, fun f F hF => ⟨⟨spM_len hF, fun A outer s H args us vs Q E hr e0 hb r hsp => by
      obtain ⟨_, _, _, _, _, _, z⟩ := hsp
      exact z.elim⟩, (T.fn f F hF).kp, (T.fn f F hF).bnd, (T.fn f F hF).at_⟩, T.kit⟩
  | n + 1 => by
    have ih := lk_ok T n
    refine ⟨T.glb, T.free, fun f F hF => ⟨?_, (T.fn f F hF).kp, (T.fn f F hF).bnd, (T.fn f F hF).at_⟩, T.kit⟩
    obtain ⟨params, body, scope, FD, S, ck⟩ := (T.fn f F hF).fn
    refine FD.ok (k := 2 * n + 1) S (spM_len hF) fun cdv A outer s H vs Q E hr hsp => ?_
    obtain ⟨φ, h0, args, rp, w, _, f0⟩ := hsp
    have f0 : Fin L.dm (fun c d _ H' => E c d H') (VR L.dm) [] φ H Q (match P.fns[f]? with
      | some F => if args.length = F.params.length then
          match exs (P.cfg (callM P n)) F.body (startM F.N.length args) h0 with
          | .next _ h1 => .ok .non h1
          | .ret v h1 => .ok v h1
          | .exc c fs _ h1 => .exc c fs h1
          | _ => .bad
        else .bad
      | none => .bad) := f0
    rw [hF] at f0
    dsimp only at f0
    by_cases hl : args.length = F.params.length
    · rw [if_pos hl] at f0
      let X : Cx := cxOf (L2.CX L.P L.w) L.P L.w L.K L.mg L.base F.N F.qual scope (L.fa f) cdv A outer s H E
      have k : XOk L P ⟨F.N, scope, none⟩ n X := ⟨rfl, rfl, rfl, rfl, rfl, rfl, S.nd, rfl, hr, rfl, fun _ => rfl, ih⟩
      have tk : Takes X (fun cls d _ H => E cls d H) := takes_of rfl rfl rfl rfl
      have ps : PassesOwn (model X.prog X.w) X.A X.env X.xe := passes_of (K := fun e s'' => L2.CX L.P L.w outer H s E e s'') rfl
      refine ⟨_, okSs L P n F.body ⟨F.N, scope, none⟩ body ck X _ k tk ps, φ, h0, startM F.N.length args, rp, er_start w, ?_⟩
      show FinX L.dm _ φ H _ (exs (P.cfg (callM P n)) F.body (startM F.N.length args) h0)
      generalize exs (P.cfg (callM P n)) F.body (startM F.N.length args) h0 = o at f0
      cases o with
      | next ρ h1 => exact fun φ1 H1 σ1 p r e => f0 φ1 H1 .non p r .non
      | ret v h1 => exact f0
      | exc c fs ρ h1 => exact fun φ1 H1 σ1 d p r e x => f0 φ1 H1 d p r x
      | brk ρ h1 => exact f0.elim
      | cnt ρ h1 => exact f0.elim
      | bad => exact f0.elim
    · rw [if_neg hl] at f0; exact f0.elim

/-! ### the look at a program -/
def chkSc (N ps : List Str) (sc : Scope) : Bool := (match sc.kind with | .function => true | _ => false) && (!sc.isCoroutine && (!sc.isGenerator && (decide N.Nodup && (decide (N.take ps.length = ps) && ((ps.all fun x => decide (sc.names.lookup x = some .local) || decide (sc.names.lookup x = some .cell)) && sc.names.all fun y => !(y.2 == .free))))))
theorem scope_ok {N ps : List Str} {sc : Scope} (h : chkSc N ps sc = true) : FnScope N ps sc := by
  unfold chkSc at h
  simp only [Bool.and_eq_true, Bool.not_eq_true', decide_eq_true_eq, List.all_eq_true, Bool.or_eq_true] at h
  obtain ⟨h1, h2, h3, h4, h5, h6, h7⟩ := h
  refine ⟨?_, h2, h3, h4, h5, h6, fun y hy e => ?_⟩
  · split at h1
    · assumption
    · cases h1
  · have := h7 y hy
    rw [e] at this
    cases this
def chkF (P : Prog) (F : Fn) (d : He.DefD) : Bool := decide (F.name = d.name) && (decide (F.qual = d.qual) && (decide (F.at_ = d.at_) && (d.dfl.isEmpty && (d.kwd.isEmpty && (chkSc F.N F.params d.scope && chkSs P ⟨F.N, d.scope, none⟩ F.body d.body)))))
def chkFs (P : Prog) : List Fn → List He.DefD → Bool
  | [], [] => true
  | F :: Fs, d :: ds => chkF P F d && chkFs P Fs ds
  | _, _ => false
theorem chkFs_at {P : Prog} : ∀ {Fs : List Fn} {ds : List He.DefD} {i : Nat} {F : Fn}, chkFs P Fs ds = true → Fs[i]? = some F → ∃ d, ds[i]? = some d ∧ chkF P F d = true
  | [], [], i, F, _, e => by simp at e
  | [], _ :: _, _, _, h, _ => by cases h
  | _ :: _, [], _, _, h, _ => by cases h
  | F :: Fs, d :: ds, 0, F', h, e => by
    obtain ⟨h1, h2⟩ := Bool.and_eq_true_iff.mp (show (chkF P F d && chkFs P Fs ds) = true from h)
    simp at e; subst e
    exact ⟨d, rfl, h1⟩
  | F :: Fs, d :: ds, i + 1, F', h, e => by
    obtain ⟨h1, h2⟩ := Bool.and_eq_true_iff.mp (show (chkF P F d && chkFs P Fs ds) = true from h)
    obtain ⟨d', e1, e2⟩ := chkFs_at (i := i) h2 (by simpa using e)
    exact ⟨d', by simpa using e1, e2⟩
/-- how a def binds -/
def BndOk (d : He.DefD) (ps : List Str) : Prop := ∀ (kV doc pm : Value) (an : Option Addr) (cdv ct : Value) (us : List Value), us.length = ps.length → bindArgs (PySem.W.fnOf d.name d.qual d.params d.body d.scope .none kV doc pm an cdv ct) ⟨us, []⟩ = pure (ps.zip us)
def BndAll : List Fn → List He.DefD → Prop
  | F :: Fs, d :: ds => BndOk d F.params ∧ BndAll Fs ds
  | _, _ => True
theorem BndAll.at_ : ∀ {Fs : List Fn} {ds : List He.DefD} {i : Nat} {F : Fn} {d : He.DefD}, BndAll Fs ds → Fs[i]? = some F → ds[i]? = some d → BndOk d F.params
  | [], _, _, _, _, _, e, _ => by simp at e
  | _ :: _, [], _, _, _, _, _, e => by simp at e
  | F :: Fs, d :: ds, 0, _, _, h, e1, e2 => by
    simp at e1 e2; subst e1; subst e2
    exact h.1
  | F :: Fs, d :: ds, i + 1, _, _, h, e1, e2 => BndAll.at_ (i := i) h.2 (by simpa using e1) (by simpa using e2)
/-- what is asked of the module's names -/
def faOf (P : Prog) : List He.Fa := P.free.map .free ++ (P.fns.filter fun F => F.at_.2.isNone).map fun F => .glo F.at_.1
def isTyV (t : Ty) (u : Option Value) : Bool := match u with
  | some (.type s) => decide (s = t.nm)
  | _ => false
def chkG (P : Prog) : Bool := P.glb.all fun p => match p.2 with
  | .ty t => P.free.contains p.1 && isTyV t (bootBuiltins p.1)
  | _ => false
/-- no list among what the names reach -/
def noLst (K : PySem.W.Frag) : Bool := K.all fun p => match p.2 with
  | ⟨.type c, none, .seq _ _, _⟩ => !decide (c = "list")
  | _ => true
theorem lookup_mem {K : PySem.W.Frag} {a : Addr} {o : Obj} (h : K.lookup a = some o) : ∃ b, (b, o) ∈ K := by
  induction K with
  | nil => cases h
  | cons p r ih =>
    obtain ⟨b, q⟩ := p
    rw [List.lookup_cons] at h
    cases e : (a == b) with
    | true => rw [e] at h; cases h; exact ⟨b, List.mem_cons_self ..⟩
    | false => rw [e] at h; obtain ⟨c, hc⟩ := ih h; exact ⟨c, List.mem_cons_of_mem _ hc⟩
theorem noLst_ok {K : PySem.W.Frag} (h : noLst K = true) {H : Hp} {a : Addr} {xs : List V} (s : SqL K H a xs) : Rd H a (.lst xs) := by
  rcases s with s | ⟨o, its, n, h1, h2, h3, h4, _⟩
  · exact s
  · obtain ⟨b, hm⟩ := lookup_mem h1
    have := List.all_eq_true.mp h _ hm
    obtain ⟨c, d, dt, sl⟩ := o
    simp only at h2 h3 h4
    subst h2 h3 h4
    simp at this

/-! ### the hook -/
abbrev AlM : Type := He.AlD × Bool
def obsM (n : Nat) (fa : List He.Fa) (fn : List He.DefD) (g : Addr → Option Obj) : AlM := (He.obsD fa fn (He.frG g (He.asD g n)), noLst (He.frG g (He.asD g n)))
def hookM (n : Nat) (fa : List He.Fa) (fn : List He.DefD) : PySem.W.Hook where
  α := AlM
  obs := fun s => obsM n fa fn s.heap.get?
  val := fun _ => (He.valD fn, true)
  says := fun _ h => ∃ K : PySem.W.Frag, K.In h ∧ He.SaysD fa fn K ∧ noLst K = true
  of := fun _ _ e => ⟨_, He.frG_in, congrArg (fun z : AlM => z.1) e, congrArg (fun z : AlM => z.2) e⟩
  keeps := fun _ _ _ ⟨K, hK, c⟩ k => ⟨K, PySem.W.Frag.In.keeps hK k, c⟩
theorem obsM_eq {n : Nat} {fa : List He.Fa} {fn : List He.DefD} {g : Addr → Option Obj} {s : Shared} (h : ∀ a, g a = s.heap.get? a) : obsM n fa fn g = (hookM n fa fn).obs s := by
  have e : g = s.heap.get? := funext h
  rw [e] <;> rfl
/-! ### the law -/
/-- the script, as it comes -/
def scrM (ns : List Int) : MH := [.rol (ns.map .int)]
theorem vrs_ints {D : Dm} {φ : List Addr} {H : Hp} : ∀ ns : List Int, VRs D φ H (ns.map .int) (ns.map V.int)
  | [] => .nil
  | n :: ns => .cons (.int n) (vrs_ints ns)
/-- nothing is let out -/
theorem cx0_of {P : Program} {w : World} {K : PySem.W.Frag} {mg : Str → Option Value} {base : Heap} {k : Nat} {f : Addr} {fd : FuncData} {ps : List Str} {sp : Sp} (F : FnOk P w K mg base (L2.CX P w) k f fd ps sp) : FnOk P w K mg base L2.CX0 k f fd ps (fun vs H Q _ => sp vs H Q fun _ _ _ => False) :=
  ⟨fun vs H Q E h => F.len vs H Q _ h, fun A outer s H args us vs Q E hr e0 hb r hsp => codeAny_mono (F.run A outer s H args us vs Q (fun _ _ _ => False) hr e0 hb r hsp) fun r s' h => by
    cases r with
    | ok fl => cases fl <;> exact h
    | error e =>
      obtain ⟨_, _, _, _, _, _, _, _, _, _, _, _, z⟩ := h
      exact z.elim⟩
theorem head_fn {P : Prog} {ds : List He.DefD} {n li most : Nat} {F : Fn} {x : Str} {Pr : Program} {w : World} {K : PySem.W.Frag} {h : Heap} {mg : Str → Option Value} {fa : Addr}
    (ck : chkFs P P.fns ds = true) (cg : chkG P = true) (cc : P.cls = []) (bn : BndAll P.fns ds) (hF : P.fns[li]? = some F) (hx : F.params = [x])
    (hrun : ∀ ns : List Int, ns.length ≤ most → ∃ h', callM P n li [.ref 0] (scrM ns) = .ok (.bl true) h')
    (X : K.In h) (G : h.Ns mainGlobals mg) (c : He.SaysD (faOf P) ds K) (nl : noLst K = true) (hat : F.at_.2 = none) (hfa : mg F.at_.1 = some (.ref fa)) :
    ∃ (fd : FuncData) (sp : Sp), (∀ (s : Shared) (u : Value), BindsTo s fd ⟨[u], []⟩ [(x, u)]) ∧
      (∀ (H : Hp) (a : Addr) (ns : List Int), ns.length ≤ most → Only H → SqL K H a (ns.map V.int) → sp [.ref a] H (fun v _ => v = .bl true) fun _ _ _ => False) ∧
      ∀ base : Heap, K.In base → base.Ns mainGlobals mg → FnOk Pr w K mg base L2.CX0 (2 * n) fa fd [x] sp := by
  have ex : ∀ i : Nat, ∃ fd : FuncData, ∀ d, ds[i]? = some d → FunD K d.name d.qual d.params d.body d.scope (d.dvs K) (d.kws K) (He.fAd K d.at_) fd := fun i => by
    cases q : ds[i]? with
    | none => exact ⟨Classical.choice ⟨(⟨default, default, default, default, default, default, default, default, default, default, default, default, default, default, default⟩ : FuncData)⟩, fun d e => by cases e⟩
    | some d =>
      obtain ⟨fd, h⟩ := c.def_ i q
      exact ⟨fd, fun d' e => by cases e; exact h⟩
  let fdf : Nat → FuncData := fun i => Classical.choose (ex i)
  have fdh := fun i => Classical.choose_spec (ex i)
  let faf : Nat → Addr := fun i => match P.fns[i]? with
    | some F => He.fAd K F.at_
    | none => 0
  have facts : ∀ f ∈ faOf P, f.ok K = true := by
    have c1 := (He.ba (show (((faOf P).all fun f => f.ok K) && ds.all fun d => d.ok K) = true from congrArg (fun z : He.AlD => z.1) c)).1
    exact List.all_eq_true.mp c1
  have hfree : ∀ x ∈ P.free, mg x = none := fun x hx => He.free_ok X G (facts (.free x) (List.mem_append_left _ (List.mem_map.mpr ⟨x, hx, rfl⟩)))
  have hglo : ∀ F ∈ P.fns, F.at_.2 = none → mg F.at_.1 = some (.ref (He.ga K F.at_.1)) := fun F hF hn => He.glo_ok X G (facts (.glo F.at_.1) (List.mem_append_right _ (List.mem_map.mpr ⟨F, List.mem_filter.mpr ⟨hF, by rw [hn]; rfl⟩, rfl⟩)))
  have fdat : ∀ i F, P.fns[i]? = some F → ∃ d, ds[i]? = some d ∧ chkF P F d = true ∧ faf i = He.fAd K F.at_ ∧ FunD K F.name F.qual d.params d.body d.scope [] [] (faf i) (fdf i) := fun i F hF => by
    obtain ⟨d, e1, e2⟩ := chkFs_at ck hF
    refine ⟨d, e1, e2, by show (match P.fns[i]? with | some F => He.fAd K F.at_ | none => 0) = _; rw [hF], ?_⟩
    have := fdh i d e1
    unfold chkF at e2
    simp only [Bool.and_eq_true, decide_eq_true_eq, List.isEmpty_iff] at e2
    obtain ⟨g1, g2, g3, g4, g5, g6, g7⟩ := e2
    have z1 : d.dvs K = [] := by unfold He.DefD.dvs; rw [g4]; rfl
    have z2 : d.kws K = [] := by unfold He.DefD.kws; rw [g5]; rfl
    rw [z1, z2, ← g1, ← g2, ← g3] at this
    have e : faf i = He.fAd K F.at_ := by show (match P.fns[i]? with | some F => He.fAd K F.at_ | none => 0) = _; rw [hF]
    rw [e]
    exact this
  have fbnd : ∀ i F, P.fns[i]? = some F → Binds K (fdf i) F.params [] := fun i F hF => by
    obtain ⟨d, e1, e2, e3, e4⟩ := fdat i F hF
    have b := BndAll.at_ bn hF e1
    unfold chkF at e2
    simp only [Bool.and_eq_true, decide_eq_true_eq] at e2
    rw [e2.1, e2.2.1] at e4
    exact e4.bindsN b
  have fat : ∀ i F x, P.fns[i]? = some F → F.at_ = (x, none) → mg x = some (.ref (faf i)) := fun i F x hF e => by
    have g := hglo F (List.mem_of_getElem? hF) (by rw [e])
    have z : faf i = He.fAd K F.at_ := by show (match P.fns[i]? with | some F => He.fAd K F.at_ | none => 0) = _; rw [hF]
    rw [z, e]
    rw [e] at g
    exact g
  have txt : ∀ base, TxtOk ⟨Pr, w, K, mg, base, fun _ => 0, faf, fdf⟩ P := fun base => by
    refine ⟨fun p hp => ?_, hfree, fun t j hj => by rw [cc] at hj; simp at hj, fun f F hF => ?_⟩
    · have := List.all_eq_true.mp cg p hp
      split at this
      · rename_i t e
        simp only [Bool.and_eq_true, List.contains_iff_mem] at this
        obtain ⟨z1, z2⟩ := this
        refine .inl ⟨t, e, hfree _ z1, ?_⟩
        unfold isTyV at z2
        split at z2
        · rename_i s es
          rw [es, of_decide_eq_true z2]
        · cases z2
      · cases this
    · obtain ⟨d, e1, e2, e3, e4⟩ := fdat f F hF
      unfold chkF at e2
      simp only [Bool.and_eq_true, decide_eq_true_eq] at e2
      exact ⟨⟨_, _, _, e4, scope_ok e2.2.2.2.2.2.1, e2.2.2.2.2.2.2⟩, e4.kp, fbnd f F hF, fun x e => fat f F x hF e⟩
  have hfe : faf li = fa := by
    have z := hglo F (List.mem_of_getElem? hF) hat
    have e : faf li = He.fAd K F.at_ := by show (match P.fns[li]? with | some F => He.fAd K F.at_ | none => 0) = _; rw [hF]
    have e2 : He.fAd K F.at_ = He.ga K F.at_.1 := by unfold He.fAd; rw [hat]
    rw [hfa] at z
    rw [e, e2]
    exact (Value.ref.inj (Option.some.inj z)).symm
  refine ⟨fdf li, fun vs H Q _ => spM ⟨Pr, w, K, mg, h, fun _ => 0, faf, fdf⟩ P n li vs H Q fun _ _ _ => False, fun s u => ?_, fun H a ns hl hO hS => ?_, fun base hb hn => ?_⟩
  · obtain ⟨d, e1, e2, e3, e4⟩ := fdat li F hF
    have b := BndAll.at_ bn hF e1
    unfold chkF at e2
    simp only [Bool.and_eq_true, decide_eq_true_eq] at e2
    rw [e2.1, e2.2.1] at e4
    have := e4.bindsA b s [u] (by rw [hx]; rfl)
    rw [hx] at this
    exact this
  · have rd := noLst_ok nl hS
    obtain ⟨o, ho⟩ : ∃ o, H a = some (.frz o (.lst (ns.map V.int))) := by
      rcases rd with r | ⟨o, r⟩
      · rcases hO a with z | ⟨o, xs, z⟩
        · rw [z] at r; cases r
        · rw [z] at r; cases r
      · exact ⟨o, r⟩
    refine ⟨[a], scrM ns, [.ref 0], ⟨rfl, by simp, fun i o' e => ?_⟩, .cons (.ref rfl) .nil, ⟨F, hF, by rw [hx]; rfl⟩, ?_⟩
    · cases i with
      | zero =>
        cases e
        exact ⟨a, rfl, o, _, ho, vrs_ints ns⟩
      | succ i => simp [scrM] at e
    · obtain ⟨h', e⟩ := hrun ns hl
      rw [e]
      intro φ' H' x' _ _ wv
      cases wv
      rfl
  · have := (lk_ok (txt base) n).fn li F hF
    rw [← hx, ← hfe]
    exact cx0_of this.1
end Mi

set_option Elab.async false
set_option linter.all false
set_option maxRecDepth 100000
set_option maxHeartbeats 2000000
/-! Draw: what the laws' draws give, whatever the script. -/
namespace Mi
open PySem PySem.Spec
def drawLoop1 : MSs := .cons (.exp (.mth (.var 5) .append (.cons (.bin .Mod (.blt .int (.cons (.var 6) .nil)) (.var 3)) .nil))) (.cons (.asg (.name 6) (.bin .FloorDiv (.var 6) (.var 3))) .nil)
def drawLoop2 : MSs := .cons (.exp (.mth (.var 5) .append (.cons (.bin .Mod (.blt .int (.cons (.bin .FloorDiv (.bin .Add (.bin .Add (.bin .Mult (.var 4) (.int 211)) (.bin .Mult (.var 7) (.int 137))) (.bin .Mult (.var 1) (.int 59))) (.bin .Add (.var 7) (.int 2))) .nil)) (.sub (.var 2) (.var 7))) .nil))) .nil
def drawB (x : Str) : MSs := (.cons (.ifs (.cmp .Eq (.var 0) (.lst .nil)) (.cons (.ret (.lc (.int 0) (.name 3) (.val (.var 2)) .nil [(x, 3)])) .nil) .nil) (.cons (.asg (.name 4) (.sub (.var 0) (.bin .Mod (.var 1) (.blt .len (.cons (.var 0) .nil))))) (.cons (.asg (.name 5) (.lst .nil)) (.cons (.ifs (.cmp .GtE (.var 4) (.bin .Pow (.int 10) (.int 18))) (.cons (.asg (.name 6) (.bin .Sub (.var 4) (.bin .Pow (.int 10) (.int 18)))) (.cons (.for_ (.name 3) (.val (.var 2)) drawLoop1) (.cons (.ret (.var 5)) .nil))) .nil) (.cons (.for_ (.name 7) (.rng (.cons (.blt .len (.cons (.var 2) .nil)) .nil)) drawLoop2) (.cons (.ret (.var 5)) .nil))))))
/-- each draw below its size -/
def Drawn : List Int → List Int → Prop
  | [], [] => True
  | d :: ds, z :: zs => (0 ≤ d ∧ d < z) ∧ Drawn ds zs
  | _, _ => False
theorem Drawn.snoc : ∀ {ds zs : List Int} {d z : Int}, Drawn ds zs → 0 ≤ d → d < z → Drawn (ds ++ [d]) (zs ++ [z])
  | [], [], _, _, _, h1, h2 => ⟨⟨h1, h2⟩, True.intro⟩
  | [], _ :: _, _, _, h, _, _ => h.elim
  | _ :: _, [], _, _, h, _, _ => h.elim
  | _ :: _, _ :: _, _, _, h, h1, h2 => ⟨h.1, h.2.snoc h1 h2⟩
theorem Drawn.len : ∀ {ds zs : List Int}, Drawn ds zs → ds.length = zs.length
  | [], [], _ => rfl
  | [], _ :: _, h => h.elim
  | _ :: _, [], h => h.elim
  | _ :: _, _ :: _, h => congrArg Nat.succ h.2.len
theorem get_l {h0 t : MH} {s : Nat} {o : MO} (e : h0[s]? = some o) : (h0 ++ t)[s]? = some o := by
  rw [List.getElem?_append_left (List.getElem?_eq_some_iff.mp e).1]; exact e
theorem get_r {h0 t : MH} (i : Nat) : (h0 ++ t)[h0.length + i]? = t[i]? := by
  rw [List.getElem?_append_right (by omega)]
  congr 1
  omega
theorem set_r {h0 t : MH} (i : Nat) (o : MO) : (h0 ++ t).set (h0.length + i) o = h0 ++ t.set i o := by
  rw [List.set_append_right _ _ (by omega)]
  congr 2
  omega
theorem mapO_ints (h : MH) (n : Nat) : ∀ ns : List Int, mapO (toD h n) (ns.map .int) = some (ns.map .int)
  | [] => rfl
  | i :: ns => by
    rw [List.map_cons, mapO, mapO_ints h n ns]
    cases n <;> rfl
section
variable {C : Cfg} {h0 : MH} {r s : Nat} {k c : Int} {sizes : List Int}
theorem stepE {E : ME} {v : Int} {acc : List Int} {x3 x6 x7 : Option MV} (hv : ev C E [some (.ref r), some (.int k), some (.ref s), x3, some (.int c), some (.ref (h0.length + 1)), x6, x7] (h0 ++ [.lst [], .lst (acc.map .int)]) = .ok (.int v) (h0 ++ [.lst [], .lst (acc.map .int)])) (hl : acc.length < line) :
    ex C (.exp (.mth (.var 5) .append (.cons E .nil))) [some (.ref r), some (.int k), some (.ref s), x3, some (.int c), some (.ref (h0.length + 1)), x6, x7] (h0 ++ [.lst [], .lst (acc.map .int)]) = .next [some (.ref r), some (.int k), some (.ref s), x3, some (.int c), some (.ref (h0.length + 1)), x6, x7] (h0 ++ [.lst [], .lst ((acc ++ [v]).map .int)]) := by
  have q1 : (h0 ++ [MO.lst [], MO.lst (acc.map .int)])[h0.length + 1]? = some (.lst (acc.map .int)) := get_r 1
  have q4 : (h0 ++ [MO.lst [], MO.lst (acc.map .int)]).set (h0.length + 1) (.lst (acc.map .int ++ [.int v])) = h0 ++ [.lst [], .lst ((acc ++ [v]).map .int)] := by
    rw [set_r]
    simp
  have e1 : ev C (.var 5) [some (.ref r), some (.int k), some (.ref s), x3, some (.int c), some (.ref (h0.length + 1)), x6, x7] (h0 ++ [.lst [], .lst (acc.map .int)]) = .ok (.ref (h0.length + 1)) (h0 ++ [.lst [], .lst (acc.map .int)]) := by rw [ev]; try rfl
  have e2 : mthR .append (.ref (h0.length + 1)) (h0 ++ [MO.lst [], MO.lst (acc.map .int)]) = true := by
    unfold mthR
    dsimp only
    rw [q1]
  have e3 : mthM .append (.ref (h0.length + 1)) [.int v] (h0 ++ [MO.lst [], MO.lst (acc.map .int)]) = .ok .non (h0 ++ [.lst [], .lst ((acc ++ [v]).map .int)]) := by
    unfold mthM
    dsimp only
    rw [q1]
    dsimp only
    rw [if_pos (by rw [List.length_map]; exact hl), q4]
  have e4 : ev C (.mth (.var 5) .append (.cons E .nil)) [some (.ref r), some (.int k), some (.ref s), x3, some (.int c), some (.ref (h0.length + 1)), x6, x7] (h0 ++ [.lst [], .lst (acc.map .int)]) = .ok .non (h0 ++ [.lst [], .lst ((acc ++ [v]).map .int)]) := by
    rw [ev, e1]
    dsimp only [Out.bind]
    rw [e2, if_pos rfl, evs, hv]
    dsimp only [Out.bind]
    rw [evs]
    dsimp only
    exact e3
  rw [ex, e4]
theorem ev_bin {C : Cfg} {ρ : Env} {h : MH} {op : Operator} {a b : ME} {v w z : MV} (ha : ev C a ρ h = .ok v h) (hb : ev C b ρ h = .ok w h) (e : binM op v w h = .ok z h) : ev C (.bin op a b) ρ h = .ok z h := by
  rw [ev, ha]
  show (ev C b ρ h).bind _ = _
  rw [hb]
  exact e
theorem ev_var {C : Cfg} {ρ : Env} {h : MH} {i : Nat} {v : MV} (e : ρ[i]? = some (some v)) : ev C (.var i) ρ h = .ok v h := by
  rw [ev]
  unfold slotO
  rw [e]
  rfl
theorem ev_int {C : Cfg} {ρ : Env} {h : MH} {i : Int} : ev C (.int i) ρ h = .ok (.int i) h := by rw [ev]
theorem ev_blt1 {C : Cfg} {ρ : Env} {h : MH} {b : Blt} {a : ME} {v z : MV} (ha : ev C a ρ h = .ok v h) (e : bltM C b [v] h = .ok z h) : ev C (.blt b (.cons a .nil)) ρ h = .ok z h := by
  rw [ev, evs, ha]
  simp only [Out.bind]
  rw [evs]
  exact e
theorem ev_sub {C : Cfg} {ρ : Env} {h : MH} {a b : ME} {v w z : MV} (ha : ev C a ρ h = .ok v h) (hb : ev C b ρ h = .ok w h) (e : subM v w h = some z) : ev C (.sub a b) ρ h = .ok z h := by
  rw [ev, ha]
  show (ev C b ρ h).bind _ = _
  rw [hb]
  show Out.of h (subM v w h) = _
  rw [e]
  rfl
theorem ev_lst0 {C : Cfg} {ρ : Env} {h : MH} : ev C (.lst .nil) ρ h = .ok (.ref h.length) (h ++ [.lst []]) := by
  rw [ev, evs]
  simp [Out.bind, alloc]
theorem b_add {i j : Int} {h : MH} : binM .Add (.int i) (.int j) h = .ok (.int (i + j)) h := rfl
theorem b_sub {i j : Int} {h : MH} : binM .Sub (.int i) (.int j) h = .ok (.int (i - j)) h := rfl
theorem b_mul {i j : Int} {h : MH} (e : cmulB i j = true) : binM .Mult (.int i) (.int j) h = .ok (.int (i * j)) h := by
  show (if cmulB i j = true then _ else _) = _
  rw [if_pos e]
theorem b_div {i j : Int} {h : MH} (e : j ≠ 0 ∧ j.natAbs < 1073741824) : binM .FloorDiv (.int i) (.int j) h = .ok (.int (i.fdiv j)) h := by
  show (if _ then _ else _) = _
  rw [if_pos e]
theorem b_mod {i j : Int} {h : MH} (e : j ≠ 0) : binM .Mod (.int i) (.int j) h = .ok (.int (i.fmod j)) h := by
  show (if _ then _ else _) = _
  rw [if_pos e]
theorem cm1 (c : Int) : cmulB c 211 = true := by unfold cmulB; simp
theorem cm2 (c : Int) : cmulB c 137 = true := by unfold cmulB; simp
theorem cm3 (c : Int) : cmulB c 59 = true := by unfold cmulB; simp
theorem atI_ints {i : Nat} {z : Int} (ez : sizes[i]? = some z) : L2.atI (sizes.map MV.int) (i : Int) = some (.int z) := by
  have hl := (List.getElem?_eq_some_iff.mp ez).1
  unfold L2.atI L2.ixN
  rw [if_pos (by omega), if_pos (by simp; omega)]
  show (sizes.map MV.int)[(i : Int).toNat]? = _
  rw [Int.toNat_natCast, List.getElem?_map, ez]
  rfl
theorem val2 {ρ : Env} {i : Nat} {z : Int} {h : MH} (h1 : ρ[1]? = some (some (.int k))) (h2 : ρ[2]? = some (some (.ref s))) (h4 : ρ[4]? = some (some (.int c))) (h7 : ρ[7]? = some (some (.int (i : Int)))) (hs : h[s]? = some (.lst (sizes.map .int))) (ez : sizes[i]? = some z) (hi : i < 1000) (hz : z ≠ 0) :
    ev C (.bin .Mod (.blt .int (.cons (.bin .FloorDiv (.bin .Add (.bin .Add (.bin .Mult (.var 4) (.int 211)) (.bin .Mult (.var 7) (.int 137))) (.bin .Mult (.var 1) (.int 59))) (.bin .Add (.var 7) (.int 2))) .nil)) (.sub (.var 2) (.var 7))) ρ h = .ok (.int ((Int.fdiv (c * 211 + (i : Int) * 137 + k * 59) ((i : Int) + 2)).fmod z)) h := by
  have b4 : (i : Int) + 2 ≠ 0 ∧ ((i : Int) + 2).natAbs < 1073741824 := by omega
  refine ev_bin (ev_blt1 (ev_bin (ev_bin (ev_bin (ev_bin (ev_var h4) ev_int (b_mul (cm1 _))) (ev_bin (ev_var h7) ev_int (b_mul (cm2 _))) b_add) (ev_bin (ev_var h1) ev_int (b_mul (cm3 _))) b_add) (ev_bin (ev_var h7) ev_int b_add) (b_div b4)) rfl) (ev_sub (ev_var h2) (ev_var h7) (z := .int z) ?_) (b_mod hz)
  unfold subM
  dsimp only
  rw [hs]
  exact atI_ints ez
theorem loop2 (hs : h0[s]? = some (.lst (sizes.map .int))) (hz : ∀ z ∈ sizes, 0 < z ∧ z < 1073741824) (hl : sizes.length ≤ 1000) :
    ∀ (f i : Nat) (acc : List Int) (x3 x6 x7 : Option MV), f + i > sizes.length → i ≤ sizes.length → Drawn acc (sizes.take i) →
    ∃ ρ' ds, Drawn ds sizes ∧ ρ'[5]? = some (some (.ref (h0.length + 1))) ∧ forM (.rng 0 sizes.length) (asg C (.name 7)) (exs C drawLoop2) f i [some (.ref r), some (.int k), some (.ref s), x3, some (.int c), some (.ref (h0.length + 1)), x6, x7] (h0 ++ [.lst [], .lst (acc.map .int)]) = .next ρ' (h0 ++ [.lst [], .lst (ds.map .int)])
  | 0, i, acc, x3, x6, x7, h1, h2, h3 => by omega
  | f + 1, i, acc, x3, x6, x7, h1, h2, h3 => by
    by_cases hi : i < sizes.length
    · have hlen : acc.length = i := by rw [h3.len, List.length_take]; omega
      obtain ⟨z, ez⟩ : ∃ z, sizes[i]? = some z := ⟨sizes[i], List.getElem?_eq_getElem hi⟩
      have hzz := hz z (List.mem_of_getElem? ez)
      have ih := loop2 hs hz hl f (i + 1) (acc ++ [(Int.fdiv (c * 211 + (i : Int) * 137 + k * 59) ((i : Int) + 2)).fmod z]) x3 x6 (some (.int (i : Int))) (by omega) (by omega) (by
        rw [List.take_add_one, ez]
        exact h3.snoc (Int.fmod_nonneg_of_pos _ hzz.1) (Int.fmod_lt_of_pos _ hzz.1))
      obtain ⟨ρ', ds, g1, g2, g3⟩ := ih
      refine ⟨ρ', ds, g1, g2, ?_⟩
      rw [← g3, forM]
      have e1 : Mi.It.at_ (.rng 0 sizes.length) i (h0 ++ [.lst [], .lst (acc.map .int)]) = some (some (.int (0 + (i : Int)))) := by
        show some (if i < sizes.length then some (MV.int (0 + (i : Int))) else none) = _
        rw [if_pos hi]
      rw [e1]
      have e2 : asg C (.name 7) (.int (0 + (i : Int))) [some (.ref r), some (.int k), some (.ref s), x3, some (.int c), some (.ref (h0.length + 1)), x6, x7] (h0 ++ [.lst [], .lst (acc.map .int)]) = .next [some (.ref r), some (.int k), some (.ref s), x3, some (.int c), some (.ref (h0.length + 1)), x6, some (.int (i : Int))] (h0 ++ [.lst [], .lst (acc.map .int)]) := by
        rw [asg, Int.zero_add]; rfl
      have e3 := stepE (C := C) (h0 := h0) (k := k) (s := s) (r := r) (c := c) (x3 := x3) (x6 := x6) (x7 := some (.int (i : Int))) (acc := acc) (val2 (C := C) (s := s) (k := k) (c := c) (i := i) (z := z) rfl rfl rfl rfl (get_l hs) ez (by omega) (by omega)) (by show acc.length < 16777216; omega)
      dsimp only
      rw [e2]
      dsimp only [drawLoop2]
      rw [exs, e3]
      dsimp only
      rw [exs]
    · have hi' : i = sizes.length := by omega
      subst hi'
      rw [List.take_length] at h3
      refine ⟨[some (.ref r), some (.int k), some (.ref s), x3, some (.int c), some (.ref (h0.length + 1)), x6, x7], acc, h3, rfl, ?_⟩
      rw [forM]
      have e1 : Mi.It.at_ (.rng 0 sizes.length) sizes.length (h0 ++ [.lst [], .lst (acc.map .int)]) = some none := by
        show some (if sizes.length < sizes.length then some (MV.int (0 + (sizes.length : Int))) else none) = _
        rw [if_neg (by omega)]
      rw [e1]
theorem loop1 (hs : h0[s]? = some (.lst (sizes.map .int))) (hz : ∀ z ∈ sizes, 0 < z ∧ z < 1073741824) (hl : sizes.length ≤ 1000) :
    ∀ (f i : Nat) (acc : List Int) (rest : Int) (x3 x7 : Option MV), f + i > sizes.length → i ≤ sizes.length → Drawn acc (sizes.take i) →
    ∃ ρ' ds, Drawn ds sizes ∧ ρ'[5]? = some (some (.ref (h0.length + 1))) ∧ forM (.lst s) (asg C (.name 3)) (exs C drawLoop1) f i [some (.ref r), some (.int k), some (.ref s), x3, some (.int c), some (.ref (h0.length + 1)), some (.int rest), x7] (h0 ++ [.lst [], .lst (acc.map .int)]) = .next ρ' (h0 ++ [.lst [], .lst (ds.map .int)])
  | 0, i, acc, rest, x3, x7, h1, h2, h3 => by omega
  | f + 1, i, acc, rest, x3, x7, h1, h2, h3 => by
    by_cases hi : i < sizes.length
    · have hlen : acc.length = i := by rw [h3.len, List.length_take]; omega
      obtain ⟨z, ez⟩ : ∃ z, sizes[i]? = some z := ⟨sizes[i], List.getElem?_eq_getElem hi⟩
      have hzz := hz z (List.mem_of_getElem? ez)
      have ih := loop1 hs hz hl f (i + 1) (acc ++ [rest.fmod z]) (rest.fdiv z) (some (.int z)) x7 (by omega) (by omega) (by
        rw [List.take_add_one, ez]
        exact h3.snoc (Int.fmod_nonneg_of_pos _ hzz.1) (Int.fmod_lt_of_pos _ hzz.1))
      obtain ⟨ρ', ds, g1, g2, g3⟩ := ih
      refine ⟨ρ', ds, g1, g2, ?_⟩
      rw [← g3, forM]
      have q1 : (h0 ++ [MO.lst [], MO.lst (acc.map .int)])[h0.length + 1]? = some (.lst (acc.map .int)) := get_r 1
      have q2 : (h0 ++ [MO.lst [], MO.lst (acc.map .int)])[s]? = some (.lst (sizes.map .int)) := get_l hs
      have e1 : Mi.It.at_ (.lst s) i (h0 ++ [.lst [], .lst (acc.map .int)]) = some (some (.int z)) := by
        unfold Mi.It.at_
        dsimp only
        rw [q2]
        dsimp only
        rw [List.getElem?_map, ez]
        rfl
      rw [e1]
      have b5 : z ≠ 0 ∧ z.natAbs < 1073741824 := by omega
      have e2 : asg C (.name 3) (.int z) [some (.ref r), some (.int k), some (.ref s), x3, some (.int c), some (.ref (h0.length + 1)), some (.int rest), x7] (h0 ++ [.lst [], .lst (acc.map .int)]) = .next [some (.ref r), some (.int k), some (.ref s), some (.int z), some (.int c), some (.ref (h0.length + 1)), some (.int rest), x7] (h0 ++ [.lst [], .lst (acc.map .int)]) := by
        rw [asg]; try rfl
      have v1 : ev C (.bin .Mod (.blt .int (.cons (.var 6) .nil)) (.var 3)) [some (.ref r), some (.int k), some (.ref s), some (.int z), some (.int c), some (.ref (h0.length + 1)), some (.int rest), x7] (h0 ++ [.lst [], .lst (acc.map .int)]) = .ok (.int (rest.fmod z)) (h0 ++ [.lst [], .lst (acc.map .int)]) := by
        exact ev_bin (ev_blt1 (ev_var rfl) rfl) (ev_var rfl) (b_mod b5.1)
      have e3 := stepE (C := C) (h0 := h0) (k := k) (s := s) (r := r) (c := c) (x3 := some (.int z)) (x6 := some (.int rest)) (x7 := x7) (acc := acc) v1 (by show acc.length < 16777216; omega)
      have e4 : ex C (.asg (.name 6) (.bin .FloorDiv (.var 6) (.var 3))) [some (.ref r), some (.int k), some (.ref s), some (.int z), some (.int c), some (.ref (h0.length + 1)), some (.int rest), x7] (h0 ++ [.lst [], .lst ((acc ++ [rest.fmod z]).map .int)]) = .next [some (.ref r), some (.int k), some (.ref s), some (.int z), some (.int c), some (.ref (h0.length + 1)), some (.int (rest.fdiv z)), x7] (h0 ++ [.lst [], .lst ((acc ++ [rest.fmod z]).map .int)]) := by
        have v2 : ev C (.bin .FloorDiv (.var 6) (.var 3)) [some (.ref r), some (.int k), some (.ref s), some (.int z), some (.int c), some (.ref (h0.length + 1)), some (.int rest), x7] (h0 ++ [.lst [], .lst ((acc ++ [rest.fmod z]).map .int)]) = .ok (.int (rest.fdiv z)) (h0 ++ [.lst [], .lst ((acc ++ [rest.fmod z]).map .int)]) := by
          exact ev_bin (ev_var rfl) (ev_var rfl) (b_div b5)
        rw [ex, v2]
        dsimp only
        rw [asg]; try rfl
      dsimp only
      rw [e2]
      dsimp only [drawLoop1]
      rw [exs, e3]
      dsimp only
      rw [exs, e4]
      dsimp only
      rw [exs]
    · have hi' : i = sizes.length := by omega
      subst hi'
      rw [List.take_length] at h3
      refine ⟨[some (.ref r), some (.int k), some (.ref s), x3, some (.int c), some (.ref (h0.length + 1)), some (.int rest), x7], acc, h3, rfl, ?_⟩
      rw [forM]
      have q2 : (h0 ++ [MO.lst [], MO.lst (acc.map .int)])[s]? = some (.lst (sizes.map .int)) := get_l hs
      have e1 : Mi.It.at_ (.lst s) sizes.length (h0 ++ [.lst [], .lst (acc.map .int)]) = some none := by
        unfold Mi.It.at_
        dsimp only
        rw [q2]
        simp
      rw [e1]
theorem loop0 (hs : h0[s]? = some (.lst (sizes.map .int))) (hl : sizes.length ≤ 1000) (t : MH) (ρ : Env) (hr : slotO ρ 2 = some (.ref s)) :
    ∀ (f i : Nat), f + i > sizes.length → i ≤ sizes.length →
    lcM (fun i h2 => match Mi.It.at_ (.lst s) i h2 with
        | none => .bad
        | some none => .ok none h2
        | some (some v) => match asg C (.name 3) v (wipe ρ [3]) h2 with
          | .next ρ3 h3 => (evA C .nil ρ3 h3).bind fun b h4 => if b then (ev C (.int 0) ρ3 h4).bind fun x h5 => .ok (some (some x)) h5 else .ok (some none) h4
          | _ => .bad) f i ((List.replicate i (0 : Int)).map .int) (h0 ++ t) = .ok ((List.replicate sizes.length (0 : Int)).map .int) (h0 ++ t)
  | 0, i, h1, h2 => by omega
  | f + 1, i, h1, h2 => by
    rw [lcM]
    have q2 : (h0 ++ t)[s]? = some (.lst (sizes.map .int)) := get_l hs
    by_cases hi : i < sizes.length
    · obtain ⟨z, ez⟩ : ∃ z, sizes[i]? = some z := ⟨sizes[i], List.getElem?_eq_getElem hi⟩
      have e1 : Mi.It.at_ (.lst s) i (h0 ++ t) = some (some (.int z)) := by
        unfold Mi.It.at_
        dsimp only
        rw [q2]
        dsimp only
        rw [List.getElem?_map, ez]
        rfl
      have ih := loop0 hs hl t ρ hr f (i + 1) (by omega) (by omega)
      rw [List.replicate_succ', List.map_append] at ih
      rw [e1]
      have b6 : i < line := by show i < 16777216; omega
      simp only [asg, evA, ev, Out.bind, if_true, List.length_map, List.length_replicate, b6]
      exact ih
    · have hi' : i = sizes.length := by omega
      subst hi'
      have e1 : Mi.It.at_ (.lst s) sizes.length (h0 ++ t) = some none := by
        unfold Mi.It.at_
        dsimp only
        rw [q2]
        simp
      rw [e1]
theorem drawn_zero : ∀ {zs : List Int}, (∀ z ∈ zs, 0 < z ∧ z < 1073741824) → Drawn (List.replicate zs.length 0) zs
  | [], _ => True.intro
  | z :: zs, h => ⟨⟨Int.le_refl _, (h z (List.mem_cons_self ..)).1⟩, drawn_zero fun y hy => h y (List.mem_cons_of_mem _ hy)⟩
end
end Mi

set_option Elab.async false
set_option linter.all false
set_option maxRecDepth 100000
set_option maxHeartbeats 2000000
/-! Draw2: what the laws' draws give, whatever the script. -/
namespace Mi
open PySem PySem.Spec
def big : Int := 10 ^ 18
theorem p18b (h : MH) : binM .Pow (.int 10) (.int 18) h = .ok (.int big) h := by
  show (if (0 : Int) ≤ 18 ∧ (18 : Int) ≤ 1000000 ∧ (10 : Int).natAbs < 2 ^ 64 then Out.ok (MV.int (10 ^ (18 : Int).toNat)) h else .bad) = _
  rw [if_pos (by decide)]
  rfl
theorem rng_len {n : Nat} (hn : n ≤ 1000) : rngM [.int (n : Int)] = some (.rng 0 n) := by
  unfold rngM
  dsimp only
  rw [if_pos (by omega), Int.toNat_natCast]
theorem evI_rng1 {C : Cfg} {ρ : Env} {h : MH} {a : ME} {n : Nat} (ha : ev C a ρ h = .ok (.int (n : Int)) h) (hn : n ≤ 1000) : evI C (.rng (.cons a .nil)) ρ h = .ok (.rng 0 n) h := by
  have e : evs C (.cons a .nil) ρ h = .ok [.int (n : Int)] h := by
    rw [evs, ha]
    simp only [Out.bind]
    rw [evs]
  have e2 : evI C (.rng (.cons a .nil)) ρ h = (Out.ok [MV.int (n : Int)] h).bind fun vs h1 => .of h1 (rngM vs) := by rw [evI, e]
  have e3 : ∀ (vs : List MV) (g : List MV → Option Mi.It) (h : MH), ((Out.ok vs h).bind fun vs h1 => Out.of h1 (g vs)) = Out.of h (g vs) := fun _ _ _ => rfl
  rw [e2, e3, rng_len hn]
  rfl
section
variable {C : Cfg} {h0 : MH} {r s : Nat} {k c : Int} {sizes : List Int}
theorem p18 {ρ : Env} {h : MH} : ev C (.bin .Pow (.int 10) (.int 18)) ρ h = .ok (.int big) h := ev_bin ev_int ev_int (p18b h)
theorem c5 {ρ : Env} {h : MH} (hρ : ρ[4]? = some (some (.int c))) : evT C (.cmp .GtE (.var 4) (.bin .Pow (.int 10) (.int 18))) ρ h = .ok (decide (big ≤ c)) h := by
  unfold evT
  rw [ev, ev_var hρ]
  simp only [Out.bind]
  rw [p18]
  rfl
/-- the draws -/
theorem draws_ok {ns : List Int} (x : Str) (hr : h0[r]? = some (.rol (ns.map .int))) (hs : h0[s]? = some (.lst (sizes.map .int))) (hz : ∀ z ∈ sizes, 0 < z ∧ z < 1073741824) (hl : sizes.length ≤ 1000) (hf : 1000 < C.fuel) :
    ∃ ds, Drawn ds sizes ∧ exs C (drawB x) [some (.ref r), some (.int k), some (.ref s), none, none, none, none, none] h0 = .ret (.ref (h0.length + 1)) (h0 ++ [.lst [], .lst (ds.map .int)]) := by
  have q1 : (h0 ++ [MO.lst []])[r]? = some (.rol (ns.map .int)) := get_l hr
  have q2 : (h0 ++ [MO.lst []])[h0.length]? = some (.lst []) := get_r 0
  have t1 : toD (h0 ++ [MO.lst []]) 64 (.ref r) = some (.list (ns.map .int)) := by
    unfold toD
    simp only [q1]
    rw [mapO_ints]
    rfl
  have t2 : toD (h0 ++ [MO.lst []]) 64 (.ref h0.length) = some (.list []) := by
    unfold toD
    simp only [q2]
    rfl
  have sh := PySem.W.ke_shaped_ints ns
  have sh2 : SeqAt.shaped (.list []) = true := PySem.W.ke_shaped_ints []
  have e0 : eqM (h0 ++ [MO.lst []]) (.ref r) (.ref h0.length) = some (decide (ns = [])) := by
    unfold eqM
    simp only [t1, t2, sh, sh2, Bool.and_self, if_true]
    cases ns with
    | nil => rfl
    | cons a b => simp [PyData.eqv, PyData.eqvAll]
  have ap : h0 ++ [MO.lst []] ++ [MO.lst []] = h0 ++ [.lst [], .lst (([] : List Int).map .int)] := by simp
  have c0 : ∀ ρ : Env, ρ[0]? = some (some (.ref r)) → evT C (.cmp .Eq (.var 0) (.lst .nil)) ρ h0 = .ok (decide (ns = [])) (h0 ++ [.lst []]) := fun ρ hρ => by
    unfold evT
    rw [ev, ev_var hρ]
    simp only [Out.bind]
    rw [ev_lst0]
    simp only [cmpM]
    rw [e0]
    rfl
  by_cases hn : ns = []
  · refine ⟨List.replicate sizes.length 0, drawn_zero hz, ?_⟩
    have g2 : (h0 ++ [MO.lst []])[s]? = some (.lst (sizes.map .int)) := get_l hs
    have lp := loop0 (C := C) (h0 := h0) hs hl [MO.lst []] [some (.ref r), some (.int k), some (.ref s), none, none, none, none, none] rfl C.fuel 0 (by omega) (by omega)
    simp only [List.replicate_zero, List.map_nil] at lp
    have c1 : ev C (.lc (.int 0) (.name 3) (.val (.var 2)) .nil [(x, 3)]) [some (.ref r), some (.int k), some (.ref s), none, none, none, none, none] (h0 ++ [.lst []]) = .ok (.ref (h0.length + 1)) (h0 ++ [.lst [], .lst ((List.replicate sizes.length (0 : Int)).map .int)]) := by
      rw [ev, evI, ev_var rfl]
      simp only [Out.bind, itV, g2, Out.of]
      simp only [List.map_cons, List.map_nil]
      have lp' := congrArg (fun o : Out (List MV) => o.bind fun xs h2 => alloc (.lst xs) h2) lp
      refine Eq.trans ?_ (lp'.trans ?_)
      · rfl
      · simp [Out.bind, alloc]
    have c2 : ex C (.ifs (.cmp .Eq (.var 0) (.lst .nil)) (.cons (.ret (.lc (.int 0) (.name 3) (.val (.var 2)) .nil [(x, 3)])) .nil) .nil) [some (.ref r), some (.int k), some (.ref s), none, none, none, none, none] h0 = .ret (.ref (h0.length + 1)) (h0 ++ [.lst [], .lst ((List.replicate sizes.length (0 : Int)).map .int)]) := by
      rw [ex, c0 _ rfl]
      simp only [hn, decide_true]
      rw [exs, ex, c1]
    unfold drawB
    rw [exs, c2]
  · obtain ⟨c, hc⟩ : ∃ c, subM (.ref r) (.int (k.fmod (ns.length : Int))) (h0 ++ [.lst []]) = some (.int c) := by
      have hp : 0 < (ns.length : Int) := by
        have := List.length_pos_iff.mpr hn
        omega
      obtain ⟨j, hj⟩ : ∃ j : Nat, k.fmod (ns.length : Int) = (j : Int) := ⟨_, (Int.toNat_of_nonneg (Int.fmod_nonneg_of_pos k hp)).symm⟩
      have hlt := Int.fmod_lt_of_pos k hp
      rw [hj] at hlt
      have hj2 : j < ns.length := by omega
      refine ⟨ns[j], ?_⟩
      rw [hj]
      unfold subM
      dsimp only
      rw [q1]
      exact atI_ints (List.getElem?_eq_getElem hj2)
    have hnz : (ns.length : Int) ≠ 0 := by
      have := List.length_pos_iff.mpr hn
      omega
    have c2 : ex C (.ifs (.cmp .Eq (.var 0) (.lst .nil)) (.cons (.ret (.lc (.int 0) (.name 3) (.val (.var 2)) .nil [(x, 3)])) .nil) .nil) [some (.ref r), some (.int k), some (.ref s), none, none, none, none, none] h0 = .next [some (.ref r), some (.int k), some (.ref s), none, none, none, none, none] (h0 ++ [.lst []]) := by
      rw [ex, c0 _ rfl]
      simp only [hn, decide_false]
      rw [exs]
    have c3 : ex C (.asg (.name 4) (.sub (.var 0) (.bin .Mod (.var 1) (.blt .len (.cons (.var 0) .nil))))) [some (.ref r), some (.int k), some (.ref s), none, none, none, none, none] (h0 ++ [.lst []]) = .next [some (.ref r), some (.int k), some (.ref s), none, some (.int c), none, none, none] (h0 ++ [.lst []]) := by
      have v1 : ev C (.sub (.var 0) (.bin .Mod (.var 1) (.blt .len (.cons (.var 0) .nil)))) [some (.ref r), some (.int k), some (.ref s), none, none, none, none, none] (h0 ++ [.lst []]) = .ok (.int c) (h0 ++ [.lst []]) := by
        refine ev_sub (ev_var rfl) (ev_bin (ev_var rfl) (ev_blt1 (z := .int (ns.length : Int)) (ev_var rfl) ?_) (b_mod hnz)) hc
        simp only [bltM, lenM, q1, List.length_map]
      rw [ex, v1]
      dsimp only
      rw [asg]
      rfl
    have c4 : ex C (.asg (.name 5) (.lst .nil)) [some (.ref r), some (.int k), some (.ref s), none, some (.int c), none, none, none] (h0 ++ [.lst []]) = .next [some (.ref r), some (.int k), some (.ref s), none, some (.int c), some (.ref (h0.length + 1)), none, none] (h0 ++ [.lst [], .lst (([] : List Int).map .int)]) := by
      rw [ex, ev_lst0]
      dsimp only
      rw [asg, ap]
      simp
    unfold drawB
    rw [exs, c2]
    dsimp only
    rw [exs, c3]
    dsimp only
    rw [exs, c4]
    dsimp only
    by_cases hb : big ≤ c
    · obtain ⟨ρ', ds, g1, g2, g3⟩ := loop1 (C := C) (h0 := h0) (r := r) (s := s) (k := k) (c := c) hs hz hl C.fuel 0 [] (c - big) none none (by omega) (by omega) True.intro
      refine ⟨ds, g1, ?_⟩
      have c6 : ex C (.asg (.name 6) (.bin .Sub (.var 4) (.bin .Pow (.int 10) (.int 18)))) [some (.ref r), some (.int k), some (.ref s), none, some (.int c), some (.ref (h0.length + 1)), none, none] (h0 ++ [.lst [], .lst (([] : List Int).map .int)]) = .next [some (.ref r), some (.int k), some (.ref s), none, some (.int c), some (.ref (h0.length + 1)), some (.int (c - big)), none] (h0 ++ [.lst [], .lst (([] : List Int).map .int)]) := by
        rw [ex, ev_bin (ev_var rfl) p18 b_sub]
        dsimp only
        rw [asg]
        rfl
      have c7 : ex C (.for_ (.name 3) (.val (.var 2)) drawLoop1) [some (.ref r), some (.int k), some (.ref s), none, some (.int c), some (.ref (h0.length + 1)), some (.int (c - big)), none] (h0 ++ [.lst [], .lst (([] : List Int).map .int)]) = .next ρ' (h0 ++ [.lst [], .lst (ds.map .int)]) := by
        have it : evI C (.val (.var 2)) [some (.ref r), some (.int k), some (.ref s), none, some (.int c), some (.ref (h0.length + 1)), some (.int (c - big)), none] (h0 ++ [.lst [], .lst (([] : List Int).map .int)]) = .ok (.lst s) (h0 ++ [.lst [], .lst (([] : List Int).map .int)]) := by
          rw [evI, ev_var rfl]
          have g2 : (h0 ++ [MO.lst [], .lst (([] : List Int).map .int)])[s]? = some (.lst (sizes.map .int)) := get_l hs
          simp only [Out.bind, itV, g2, Out.of]
        rw [ex, it]
        exact g3
      have c8 : ex C (.ifs (.cmp .GtE (.var 4) (.bin .Pow (.int 10) (.int 18))) (.cons (.asg (.name 6) (.bin .Sub (.var 4) (.bin .Pow (.int 10) (.int 18)))) (.cons (.for_ (.name 3) (.val (.var 2)) drawLoop1) (.cons (.ret (.var 5)) .nil))) .nil) [some (.ref r), some (.int k), some (.ref s), none, some (.int c), some (.ref (h0.length + 1)), none, none] (h0 ++ [.lst [], .lst (([] : List Int).map .int)]) = .ret (.ref (h0.length + 1)) (h0 ++ [.lst [], .lst (ds.map .int)]) := by
        rw [ex, c5 rfl]
        simp only [hb, decide_true]
        rw [exs, c6]
        dsimp only
        rw [exs, c7]
        dsimp only
        rw [exs, ex, ev_var g2]
      rw [exs, c8]
    · obtain ⟨ρ', ds, g1, g2, g3⟩ := loop2 (C := C) (h0 := h0) (r := r) (s := s) (k := k) (c := c) hs hz hl C.fuel 0 [] none none none (by omega) (by omega) True.intro
      refine ⟨ds, g1, ?_⟩
      have c8 : ex C (.ifs (.cmp .GtE (.var 4) (.bin .Pow (.int 10) (.int 18))) (.cons (.asg (.name 6) (.bin .Sub (.var 4) (.bin .Pow (.int 10) (.int 18)))) (.cons (.for_ (.name 3) (.val (.var 2)) drawLoop1) (.cons (.ret (.var 5)) .nil))) .nil) [some (.ref r), some (.int k), some (.ref s), none, some (.int c), some (.ref (h0.length + 1)), none, none] (h0 ++ [.lst [], .lst (([] : List Int).map .int)]) = .next [some (.ref r), some (.int k), some (.ref s), none, some (.int c), some (.ref (h0.length + 1)), none, none] (h0 ++ [.lst [], .lst (([] : List Int).map .int)]) := by
        rw [ex, c5 rfl]
        simp only [hb, decide_false]
        rw [exs]
      have c7 : ex C (.for_ (.name 7) (.rng (.cons (.blt .len (.cons (.var 2) .nil)) .nil)) drawLoop2) [some (.ref r), some (.int k), some (.ref s), none, some (.int c), some (.ref (h0.length + 1)), none, none] (h0 ++ [.lst [], .lst (([] : List Int).map .int)]) = .next ρ' (h0 ++ [.lst [], .lst (ds.map .int)]) := by
        have g2 : (h0 ++ [MO.lst [], .lst (([] : List Int).map .int)])[s]? = some (.lst (sizes.map .int)) := get_l hs
        have it : evI C (.rng (.cons (.blt .len (.cons (.var 2) .nil)) .nil)) [some (.ref r), some (.int k), some (.ref s), none, some (.int c), some (.ref (h0.length + 1)), none, none] (h0 ++ [.lst [], .lst (([] : List Int).map .int)]) = .ok (.rng 0 sizes.length) (h0 ++ [.lst [], .lst (([] : List Int).map .int)]) := by
          exact evI_rng1 (ev_blt1 (z := .int (sizes.length : Int)) (ev_var rfl) (by simp only [bltM, lenM, g2, List.length_map])) hl
        rw [ex, it]
        exact g3
      rw [exs, c8]
      dsimp only
      rw [exs, c7]
      dsimp only
      rw [exs, ex, ev_var g2]
end
end Mi

set_option Elab.async false
set_option linter.all false
set_option maxRecDepth 100000
set_option maxHeartbeats 2000000
/-! Draw3: a law whose draws are few: all of them are run. -/
namespace Mi
open PySem PySem.Spec
theorem draw_call {P : Prog} {n f r s : Nat} {k : Int} {F : Fn} {x : Str} {h0 : MH} {ns sizes : List Int} (hF : P.fns[f]? = some F) (hb : F.body = drawB x) (hp : F.params.length = 3) (hN : F.N.length = 8) (hf : 1000 < P.fuel)
    (hr : h0[r]? = some (.rol (ns.map .int))) (hs : h0[s]? = some (.lst (sizes.map .int))) (hz : ∀ z ∈ sizes, 0 < z ∧ z < 1073741824) (hl : sizes.length ≤ 1000) :
    ∃ ds, Drawn ds sizes ∧ callM P (n + 1) f [.ref r, .int k, .ref s] h0 = .ok (.ref (h0.length + 1)) (h0 ++ [.lst [], .lst (ds.map .int)]) := by
  obtain ⟨ds, h1, h2⟩ := draws_ok (C := P.cfg (callM P n)) (k := k) x hr hs hz hl hf
  refine ⟨ds, h1, ?_⟩
  unfold callM
  rw [hF]
  dsimp only
  rw [if_pos (by rw [hp]; rfl), hb, hN]
  have e : startM 8 [MV.ref r, .int k, .ref s] = [some (.ref r), some (.int k), some (.ref s), none, none, none, none, none] := rfl
  rw [e, h2]
def below : Nat → List Int
  | 0 => []
  | n + 1 => below n ++ [(n : Int)]
def allDraws : List Int → List (List Int)
  | [] => [[]]
  | z :: zs => (below z.toNat).flatMap fun d => (allDraws zs).map fun ds => d :: ds
theorem below_mem : ∀ {n : Nat} {d : Int}, 0 ≤ d → d < n → d ∈ below n
  | 0, d, h1, h2 => by omega
  | n + 1, d, h1, h2 => by
    unfold below
    by_cases h : d < n
    · exact List.mem_append_left _ (below_mem h1 h)
    · exact List.mem_append_right _ (by simp; omega)
theorem drawn_mem : ∀ {zs ds : List Int}, Drawn ds zs → ds ∈ allDraws zs
  | [], [], _ => by simp [allDraws]
  | [], _ :: _, h => h.elim
  | _ :: _, [], h => h.elim
  | z :: zs, d :: ds, h => by
    unfold allDraws
    refine List.mem_flatMap.mpr ⟨d, below_mem h.1.1 (by have := h.1; omega), List.mem_map.mpr ⟨ds, drawn_mem h.2, rfl⟩⟩
def goodS (o : SOut) : Bool := match o with
  | .ret (.bl true) _ => true
  | _ => false
theorem goodS_of {o : SOut} (h : goodS o = true) : ∃ h', o = .ret (.bl true) h' := by
  unfold goodS at h
  split at h
  · exact ⟨_, rfl⟩
  · cases h
/-- the sizes, written as a display -/
def dispB : List Int → MEs
  | [] => .nil
  | z :: zs => .cons (.int z) (dispB zs)
theorem evs_disp {C : Cfg} {ρ : Env} {h : MH} : ∀ zs : List Int, evs C (dispB zs) ρ h = .ok (zs.map .int) h
  | [] => by unfold dispB; rw [evs]; rfl
  | z :: zs => by
    unfold dispB
    rw [evs, ev]
    show (evs C (dispB zs) ρ h).bind _ = _
    rw [evs_disp zs]
    rfl
/-- a law that draws first, then runs -/
theorem law_few {P : Prog} {n li f m : Nat} {k : Int} {F L : Fn} {x y : Str} {sizes : List Int} {rest : MSs} (hF : P.fns[f]? = some F) (hb : F.body = drawB x) (hp : F.params.length = 3) (hN : F.N.length = 8) (hf : 1000 < P.fuel) (hz : ∀ z ∈ sizes, 0 < z ∧ z < 1073741824) (hl : sizes.length ≤ 1000)
    (hL : P.fns[li]? = some L) (hLp : L.params.length = 1) (hLN : L.N.length = m + 2) (hLb : L.body = .cons (.asg (.name 1) (.call y f (.cons (.var 0) (.cons (.int k) (.cons (.lst (dispB sizes)) .nil))))) rest)
    (run : ∀ xs : List MV, (allDraws sizes).all (fun ds => goodS (exs (P.cfg (callM P (n + 1))) rest (some (.ref 0) :: some (.ref 3) :: List.replicate m none) [.rol xs, .lst (sizes.map .int), .lst [], .lst (ds.map .int)])) = true) (ns : List Int) :
    ∃ h', callM P (n + 2) li [.ref 0] (scrM ns) = .ok (.bl true) h' := by
  obtain ⟨ds, h1, h2⟩ := draw_call (n := n) (k := k) (r := 0) (s := 1) (h0 := [.rol (ns.map .int), .lst (sizes.map .int)]) (ns := ns) hF hb hp hN hf rfl rfl hz hl
  have g := List.all_eq_true.mp (run (ns.map .int)) ds (drawn_mem h1)
  obtain ⟨h', e⟩ := goodS_of g
  refine ⟨h', ?_⟩
  have e0 : startM (m + 2) [MV.ref 0] = some (.ref 0) :: none :: List.replicate m none := by
    show some (MV.ref 0) :: List.replicate (m + 2 - 1) none = _
    rw [show m + 2 - 1 = m + 1 by omega, List.replicate_succ]
  have e1 : ex (P.cfg (callM P (n + 1))) (.asg (.name 1) (.call y f (.cons (.var 0) (.cons (.int k) (.cons (.lst (dispB sizes)) .nil))))) (some (.ref 0) :: none :: List.replicate m none) (scrM ns) = .next (some (.ref 0) :: some (.ref 3) :: List.replicate m none) [.rol (ns.map .int), .lst (sizes.map .int), .lst [], .lst (ds.map .int)] := by
    have a1 : evs (P.cfg (callM P (n + 1))) (.cons (.var 0) (.cons (.int k) (.cons (.lst (dispB sizes)) .nil))) (some (.ref 0) :: none :: List.replicate m none) (scrM ns) = .ok [.ref 0, .int k, .ref 1] [.rol (ns.map .int), .lst (sizes.map .int)] := by
      have b1 : ev (P.cfg (callM P (n + 1))) (.lst (dispB sizes)) (some (.ref 0) :: none :: List.replicate m none) (scrM ns) = .ok (.ref 1) [.rol (ns.map .int), .lst (sizes.map .int)] := by
        rw [ev, evs_disp]
        simp only [Out.bind, List.length_map]
        rw [if_pos (by show sizes.length ≤ 16777216; omega)]
        rfl
      rw [evs, ev_var rfl]
      simp only [Out.bind]
      rw [evs, ev_int]
      simp only [Out.bind]
      rw [evs, b1]
      simp only [Out.bind]
      rw [evs]
    rw [ex, ev, a1]
    simp only [Out.bind, Prog.cfg]
    rw [h2]
    dsimp only
    rw [asg]
    rfl
  unfold callM
  rw [hL]
  dsimp only
  rw [if_pos (by rw [hLp]; rfl), hLb, hLN, e0, exs, e1]
  dsimp only
  rw [e]
end Mi

set_option Elab.async false
set_option linter.all false
set_option maxRecDepth 100000
set_option maxHeartbeats 2000000
/-! Kc: the interpreter's steps as small functions, for runs in the kernel. -/
namespace Mi
open PySem PySem.Spec
abbrev KE := Env → MH → Out MV
abbrev KS := Env → MH → SOut
def kvar (i : Nat) : KE := fun ρ h => .of h (slotO ρ i)
def kval (v : MV) : KE := fun _ h => .ok v h
def kbin (op : Operator) (a b : KE) : KE := fun ρ h => (a ρ h).bind fun v h1 => (b ρ h1).bind fun w h2 => binM op v w h2
def kneg (a : KE) : KE := fun ρ h => (a ρ h).bind fun v h1 => match v with
  | .int i => .ok (.int (-i)) h1
  | _ => .bad
def kcmp (op : CmpOp) (a b : KE) : KE := fun ρ h => (a ρ h).bind fun v h1 => (b ρ h1).bind fun w h2 => .of h2 ((cmpM op v w h2).map .bl)
def knot (a : KE) : KE := fun ρ h => (a ρ h).bind fun v h1 => .of h1 ((truth h1 v).map fun b => .bl (!b))
def kifx (c a b : KE) : KE := fun ρ h => (c ρ h).bind fun v h1 => match truth h1 v with
  | some true => a ρ h1
  | some false => b ρ h1
  | none => .bad
abbrev KEs := Env → MH → Out (List MV)
def knil : KEs := fun _ h => .ok [] h
def kcons (a : KE) (as : KEs) : KEs := fun ρ h => (a ρ h).bind fun v h1 => (as ρ h1).bind fun vs h2 => .ok (v :: vs) h2
def ktup (es : KEs) : KE := fun ρ h => (es ρ h).bind fun vs h1 => if vs.length ≤ line then .ok (.tup vs) h1 else .bad
def klst (es : KEs) : KE := fun ρ h => (es ρ h).bind fun vs h1 => if vs.length ≤ line then alloc (.lst vs) h1 else .bad
def kdic0 : KE := fun _ h => alloc (.dic []) h
def kdic1 (k v : KE) : KE := fun ρ h => (k ρ h).bind fun x h1 => (v ρ h1).bind fun y h2 => if kfit [] x then alloc (.dic [(x, y)]) h2 else .bad
def ksub (a i : KE) : KE := fun ρ h => (a ρ h).bind fun v h1 => (i ρ h1).bind fun w h2 => .of h2 (subM v w h2)
abbrev KO := Env → MH → Out (Option Int)
def kon : KO := fun _ h => .ok none h
def kos (a : KE) : KO := fun ρ h => (a ρ h).bind fun v h1 => match v with
  | .int i => .ok (some i) h1
  | _ => .bad
def kslc (a : KE) (lo hi : KO) : KE := fun ρ h => (a ρ h).bind fun v h1 => (lo ρ h1).bind fun l h2 => (hi ρ h2).bind fun u h3 => slcM v l u h3
def kcal (f : List MV → MH → Out MV) (es : KEs) : KE := fun ρ h => (es ρ h).bind fun vs h1 => f vs h1
def kblt (C : Cfg) (b : Blt) (es : KEs) : KE := fun ρ h => (es ρ h).bind fun vs h1 => bltM C b vs h1
def kmth (a : KE) (m : Mth) (es : KEs) : KE := fun ρ h => (a ρ h).bind fun v h1 => if mthR m v h1 then (es ρ h1).bind fun vs h2 => mthM m v vs h2 else .bad
def kyes : Env → MH → Out Bool := fun _ h => .ok true h
def kand (a : KE) (as : Env → MH → Out Bool) : Env → MH → Out Bool := fun ρ h => (a ρ h).bind fun v h1 => match truth h1 v with
  | some true => as ρ h1
  | some false => .ok false h1
  | none => .bad
abbrev KI := Env → MH → Out Mi.It
def kiv (a : KE) : KI := fun ρ h => (a ρ h).bind fun v h1 => .of h1 (itV v h1)
def kir (es : KEs) : KI := fun ρ h => (es ρ h).bind fun vs h1 => .of h1 (rngM vs)
abbrev KT := MV → Env → MH → SOut
def ktn (i : Nat) : KT := fun v ρ h => .next (ρ.set i (some v)) h
abbrev KTs := List MV → Env → MH → SOut
def ktsn : KTs := fun vs ρ h => match vs with
  | [] => .next ρ h
  | _ => .bad
def ktsc (t : KT) (ts : KTs) : KTs := fun vs ρ h => match vs with
  | v :: vs => match t v ρ h with
    | .next ρ1 h1 => ts vs ρ1 h1
    | _ => .bad
  | [] => .bad
def ktt (ts : KTs) : KT := fun v ρ h => match v with
  | .tup xs => ts xs ρ h
  | _ => .bad
def ktest (a : KE) : Env → MH → Out Bool := fun ρ h => (a ρ h).bind fun v h1 => .of h1 (truth h1 v)
def ksexp (a : KE) : KS := fun ρ h => match a ρ h with
  | .ok _ h1 => .next ρ h1
  | .exc c fs h1 => .exc c fs ρ h1
  | .bad => .bad
def ksnext : KS := fun ρ h => .next ρ h
def ksret (a : KE) : KS := fun ρ h => match a ρ h with
  | .ok v h1 => .ret v h1
  | .exc c fs h1 => .exc c fs ρ h1
  | .bad => .bad
def ksretN : KS := fun _ h => .ret .non h
def ksbrk : KS := fun ρ h => .brk ρ h
def kscnt : KS := fun ρ h => .cnt ρ h
def ksasg (t : KT) (a : KE) : KS := fun ρ h => match a ρ h with
  | .ok v h1 => t v ρ h1
  | .exc c fs h1 => .exc c fs ρ h1
  | .bad => .bad
def ksaug (i : Nat) (op : Operator) (a : KE) : KS := fun ρ h => match slotO ρ i with
    | some v => match a ρ h with
      | .ok w h1 => match augM op v w h1 with
        | .ok z h2 => .next (ρ.set i (some z)) h2
        | .exc c fs h2 => .exc c fs ρ h2
        | .bad => .bad
      | .exc c fs h1 => .exc c fs ρ h1
      | .bad => .bad
    | none => .bad
def ksif (c : Env → MH → Out Bool) (a b : KS) : KS := fun ρ h => match c ρ h with
    | .ok true h1 => a ρ h1
    | .ok false h1 => b ρ h1
    | .exc k fs h1 => .exc k fs ρ h1
    | .bad => .bad
def kswhl (fuel : Nat) (c : Env → MH → Out Bool) (b : KS) : KS := fun ρ h => whileM c b fuel ρ h
def ksfor (fuel : Nat) (t : KT) (i : KI) (b : KS) : KS := fun ρ h => match i ρ h with
    | .ok I h1 => forM I t b fuel 0 ρ h1
    | .exc c fs h1 => .exc c fs ρ h1
    | .bad => .bad
def kseq (a b : KS) : KS := fun ρ h => match a ρ h with
    | .next ρ1 h1 => b ρ1 h1
    | o => o
section
variable (C : Cfg)
theorem k_var {i} : ev C (.var i) = kvar i := by funext ρ h; rw [ev]; try rfl
theorem k_non : ev C .non = kval .non := by funext ρ h; rw [ev]; try rfl
theorem k_bl {b} : ev C (.bl b) = kval (.bl b) := by funext ρ h; rw [ev]; try rfl
theorem k_int {b} : ev C (.int b) = kval (.int b) := by funext ρ h; rw [ev]; try rfl
theorem k_str {b} : ev C (.str b) = kval (.str b) := by funext ρ h; rw [ev]; try rfl
theorem k_glb {x v} : ev C (.glb x v) = kval v := by funext ρ h; rw [ev]; try rfl
theorem k_bin {op a b} : ev C (.bin op a b) = kbin op (ev C a) (ev C b) := by funext ρ h; rw [ev]; try rfl
theorem k_neg {a} : ev C (.neg a) = kneg (ev C a) := by funext ρ h; rw [ev]; try rfl
theorem k_cmp {op a b} : ev C (.cmp op a b) = kcmp op (ev C a) (ev C b) := by funext ρ h; rw [ev]; try rfl
theorem k_chn {o p a b c} : ev C (.chn o p a b c) = chnM o p (ev C a) (ev C b) (ev C c) := by funext ρ h; rw [ev]; try rfl
theorem k_bop {op es} : ev C (.bop op es) = evB C op es := by funext ρ h; rw [ev]
theorem k_b1 {op a} : evB C op (.cons a .nil) = ev C a := by funext ρ h; rw [evB]
theorem k_bc {op a b bs} : evB C op (.cons a (.cons b bs)) = bopM op (ev C a) (evB C op (.cons b bs)) := by
  funext ρ h
  rw [evB]
  · rfl
  · intro z; cases z
theorem k_not {a} : ev C (.not a) = knot (ev C a) := by funext ρ h; rw [ev]; try rfl
theorem k_ifx {c a b} : ev C (.ifx c a b) = kifx (ev C c) (ev C a) (ev C b) := by funext ρ h; rw [ev]; try rfl
theorem k_nil : evs C .nil = knil := by funext ρ h; rw [evs]; rfl
theorem k_cons {a as} : evs C (.cons a as) = kcons (ev C a) (evs C as) := by funext ρ h; rw [evs]; rfl
theorem k_tup {es} : ev C (.tup es) = ktup (evs C es) := by funext ρ h; rw [ev]; try rfl
theorem k_lst {es} : ev C (.lst es) = klst (evs C es) := by funext ρ h; rw [ev]; try rfl
theorem k_dic0 : ev C .dic0 = kdic0 := by funext ρ h; rw [ev]; try rfl
theorem k_dic1 {k v} : ev C (.dic1 k v) = kdic1 (ev C k) (ev C v) := by funext ρ h; rw [ev]; try rfl
theorem k_sub {a i} : ev C (.sub a i) = ksub (ev C a) (ev C i) := by funext ρ h; rw [ev]; try rfl
theorem k_on : evO C .none = kon := by funext ρ h; rw [evO]; try rfl
theorem k_os {a} : evO C (.some a) = kos (ev C a) := by funext ρ h; rw [evO]; try rfl
theorem k_slc {a lo hi} : ev C (.slc a lo hi) = kslc (ev C a) (evO C lo) (evO C hi) := by funext ρ h; rw [ev]; try rfl
theorem k_call {x f es} : ev C (.call x f es) = kcal (C.call f) (evs C es) := by funext ρ h; rw [ev]; try rfl
theorem k_blt {b es} : ev C (.blt b es) = kblt C b (evs C es) := by funext ρ h; rw [ev]; try rfl
theorem k_mth {a m es} : ev C (.mth a m es) = kmth (ev C a) m (evs C es) := by funext ρ h; rw [ev]; try rfl
theorem k_yes : evA C .nil = kyes := by funext ρ h; rw [evA]; rfl
theorem k_and {a as} : evA C (.cons a as) = kand (ev C a) (evA C as) := by funext ρ h; rw [evA]; rfl
theorem k_lc {a t it ifs own} : ev C (.lc a t it ifs own) = lcR (evI C it) (asg C t) (evA C ifs) (ev C a) (own.map (·.2)) C.fuel := by funext ρ h; rw [ev]; try rfl
theorem k_iv {a} : evI C (.val a) = kiv (ev C a) := by funext ρ h; rw [evI]; rfl
theorem k_ir {es} : evI C (.rng es) = kir (evs C es) := by funext ρ h; rw [evI]; rfl
theorem k_tn {i} : asg C (.name i) = ktn i := by funext v ρ h; rw [asg]; try rfl
theorem k_tt {ts} : asg C (.tup ts) = ktt (asgs C ts) := by
  funext v ρ h
  cases v <;> first | rfl | (rw [asg]; try rfl)
theorem k_ts {a i} : asg C (.sub a i) = subA (ev C a) (ev C i) := by funext v ρ h; rw [asg]; try rfl
theorem k_tsn : asgs C .nil = ktsn := by
  funext v ρ h
  cases v <;> (unfold asgs; rfl)
theorem k_tsc {t ts} : asgs C (.cons t ts) = ktsc (asg C t) (asgs C ts) := by
  funext v ρ h
  cases v with
  | nil => unfold asgs; rfl
  | cons v vs => rw [asgs]; try rfl
theorem s_exp {a} : ex C (.exp a) = ksexp (ev C a) := by funext ρ h; rw [ex]; try rfl
theorem s_doc : ex C .doc = ksnext := by funext ρ h; rw [ex]; try rfl
theorem s_pass : ex C .pass = ksnext := by funext ρ h; rw [ex]; try rfl
theorem s_ret {a} : ex C (.ret a) = ksret (ev C a) := by funext ρ h; rw [ex]; try rfl
theorem s_retN : ex C .retN = ksretN := by funext ρ h; rw [ex]; try rfl
theorem s_brk : ex C .brk = ksbrk := by funext ρ h; rw [ex]; try rfl
theorem s_cnt : ex C .cnt = kscnt := by funext ρ h; rw [ex]; try rfl
theorem s_asg {t a} : ex C (.asg t a) = ksasg (asg C t) (ev C a) := by funext ρ h; rw [ex]; try rfl
theorem s_aug {i op a} : ex C (.aug i op a) = ksaug i op (ev C a) := by funext ρ h; rw [ex]; try rfl
theorem s_if {c a b} : ex C (.ifs c a b) = ksif (ktest (ev C c)) (exs C a) (exs C b) := by funext ρ h; rw [ex]; try rfl
theorem s_whl {c b} : ex C (.whl c b) = kswhl C.fuel (ktest (ev C c)) (exs C b) := by funext ρ h; rw [ex]; try rfl
theorem s_for {t i b} : ex C (.for_ t i b) = ksfor C.fuel (asg C t) (evI C i) (exs C b) := by funext ρ h; rw [ex]; try rfl
theorem s_nil : exs C .nil = ksnext := by funext ρ h; rw [exs]; rfl
theorem s_seq {s ss} : exs C (.cons s ss) = kseq (ex C s) (exs C ss) := by funext ρ h; rw [exs]; rfl
end
/-- a function of so many parameters and names -/
def kfn (np nN : Nat) (b : KS) (vs : List MV) (h : MH) : Out MV := if vs.length = np then
        match b (startM nN vs) h with
        | .next _ h1 => .ok .non h1
        | .ret v h1 => .ok v h1
        | .exc c fs _ h1 => .exc c fs h1
        | _ => .bad
      else .bad
theorem callM_kfn {P : Prog} {n f : Nat} {F : Fn} {vs : List MV} {h : MH} {b : KS} (hF : P.fns[f]? = some F) (hb : exs (P.cfg (callM P n)) F.body = b) : callM P (n + 1) f vs h = kfn F.params.length F.N.length b vs h := by
  subst hb
  show (match P.fns[f]? with
    | some F => _
    | none => _) = _
  rw [hF]
  rfl
end Mi

set_option Elab.async false
set_option linter.all false
set_option maxRecDepth 100000
set_option maxHeartbeats 0
namespace K06
open Mi
def f__held_after : Fn := { name := (PySem.Str.ofString "_held_after"), qual := (PySem.Str.ofString "_held_after"), at_ := ((PySem.Str.ofString "_held_after"), none), params := [(PySem.Str.ofString "rule"), (PySem.Str.ofString "held"), (PySem.Str.ofString "line"), (PySem.Str.ofString "places")], N := [(PySem.Str.ofString "rule"), (PySem.Str.ofString "held"), (PySem.Str.ofString "line"), (PySem.Str.ofString "places"), (PySem.Str.ofString "one")], body :=
  (.cons (.ifs (.cmp .In (.var 2) (.var 1)) (.cons (.ifs (.cmp .Eq (.var 0) (.str (PySem.Str.ofString "fifo"))) (.cons (.ret (.var 1)) .nil) .nil) (.cons (.ret (.bin .Add (.blt .tuple (.cons (.lc (.var 4) (.name 4) (.val (.var 1)) (.cons (.cmp .NotEq (.var 4) (.var 2)) .nil) [((PySem.Str.ofString "one"), 4)]) .nil)) (.tup (.cons (.var 2) .nil)))) .nil)) .nil) (.cons (.ifs (.cmp .Eq (.blt .len (.cons (.var 1) .nil)) (.var 3)) (.cons (.ret (.bin .Add (.slc (.var 1) (.some (.int 1)) .none) (.tup (.cons (.var 2) .nil)))) .nil) .nil) (.cons (.ret (.bin .Add (.var 1) (.tup (.cons (.var 2) .nil)))) .nil))) }
def f_cache_table : Fn := { name := (PySem.Str.ofString "cache_table"), qual := (PySem.Str.ofString "cache_table"), at_ := ((PySem.Str.ofString "cache_table"), none), params := [(PySem.Str.ofString "rule"), (PySem.Str.ofString "lines"), (PySem.Str.ofString "places"), (PySem.Str.ofString "penalty")], N := [(PySem.Str.ofString "rule"), (PySem.Str.ofString "lines"), (PySem.Str.ofString "places"), (PySem.Str.ofString "penalty"), (PySem.Str.ofString "numbers"), (PySem.Str.ofString "contents"), (PySem.Str.ofString "table"), (PySem.Str.ofString "held"), (PySem.Str.ofString "row"), (PySem.Str.ofString "line"), (PySem.Str.ofString "after"), (PySem.Str.ofString "extra")], body :=
  (.cons (.asg (.name 4) (.dic1 (.tup .nil) (.int 0))) (.cons (.asg (.name 5) (.lst (.cons (.tup .nil) .nil))) (.cons (.asg (.name 6) (.lst .nil)) (.cons (.whl (.cmp .Lt (.blt .len (.cons (.var 6) .nil)) (.blt .len (.cons (.var 5) .nil))) (.cons (.asg (.name 7) (.sub (.var 5) (.blt .len (.cons (.var 6) .nil)))) (.cons (.asg (.name 8) (.lst .nil)) (.cons (.for_ (.name 9) (.rng (.cons (.var 1) .nil)) (.cons (.asg (.name 10) (.call (PySem.Str.ofString "_held_after") 0 (.cons (.var 0) (.cons (.var 7) (.cons (.var 9) (.cons (.var 2) .nil)))))) (.cons (.ifs (.cmp .NotIn (.var 10) (.var 4)) (.cons (.asg (.sub (.var 4) (.var 10)) (.blt .len (.cons (.var 5) .nil))) (.cons (.exp (.mth (.var 5) .append (.cons (.var 10) .nil))) .nil)) .nil) (.cons (.asg (.name 11) (.ifx (.cmp .In (.var 9) (.var 7)) (.int 0) (.var 3))) (.cons (.exp (.mth (.var 8) .append (.cons (.tup (.cons (.var 11) (.cons (.sub (.var 4) (.var 10)) .nil))) .nil))) .nil))))) (.cons (.exp (.mth (.var 6) .append (.cons (.var 8) .nil))) .nil))))) (.cons (.ret (.var 6)) .nil))))) }
def f__law_draws : Fn := { name := (PySem.Str.ofString "_law_draws"), qual := (PySem.Str.ofString "_law_draws"), at_ := ((PySem.Str.ofString "_law_draws"), none), params := [(PySem.Str.ofString "_law_script"), (PySem.Str.ofString "_law_k"), (PySem.Str.ofString "_law_sizes")], N := [(PySem.Str.ofString "_law_script"), (PySem.Str.ofString "_law_k"), (PySem.Str.ofString "_law_sizes"), (PySem.Str.ofString "_law_size"), (PySem.Str.ofString "_law_cell"), (PySem.Str.ofString "_law_drawn"), (PySem.Str.ofString "_law_rest"), (PySem.Str.ofString "_law_j")], body :=
  (.cons (.ifs (.cmp .Eq (.var 0) (.lst .nil)) (.cons (.ret (.lc (.int 0) (.name 3) (.val (.var 2)) .nil [((PySem.Str.ofString "_law_size"), 3)])) .nil) .nil) (.cons (.asg (.name 4) (.sub (.var 0) (.bin .Mod (.var 1) (.blt .len (.cons (.var 0) .nil))))) (.cons (.asg (.name 5) (.lst .nil)) (.cons (.ifs (.cmp .GtE (.var 4) (.bin .Pow (.int 10) (.int 18))) (.cons (.asg (.name 6) (.bin .Sub (.var 4) (.bin .Pow (.int 10) (.int 18)))) (.cons (.for_ (.name 3) (.val (.var 2)) (.cons (.exp (.mth (.var 5) .append (.cons (.bin .Mod (.blt .int (.cons (.var 6) .nil)) (.var 3)) .nil))) (.cons (.asg (.name 6) (.bin .FloorDiv (.var 6) (.var 3))) .nil))) (.cons (.ret (.var 5)) .nil))) .nil) (.cons (.for_ (.name 7) (.rng (.cons (.blt .len (.cons (.var 2) .nil)) .nil)) (.cons (.exp (.mth (.var 5) .append (.cons (.bin .Mod (.blt .int (.cons (.bin .FloorDiv (.bin .Add (.bin .Add (.bin .Mult (.var 4) (.int 211)) (.bin .Mult (.var 7) (.int 137))) (.bin .Mult (.var 1) (.int 59))) (.bin .Add (.var 7) (.int 2))) .nil)) (.sub (.var 2) (.var 7))) .nil))) .nil)) (.cons (.ret (.var 5)) .nil)))))) }
def f__law_number : Fn := { name := (PySem.Str.ofString "_law_number"), qual := (PySem.Str.ofString "_law_number"), at_ := ((PySem.Str.ofString "_law_number"), none), params := [(PySem.Str.ofString "_law_told")], N := [(PySem.Str.ofString "_law_told")], body :=
  (.cons (.ret (.bop .And (.cons (.blt .isi (.cons (.var 0) (.cons (.glb (PySem.Str.ofString "int") (.ty .int)) .nil))) (.cons (.not (.blt .isi (.cons (.var 0) (.cons (.glb (PySem.Str.ofString "bool") (.ty .bool)) .nil)))) .nil)))) .nil) }
def f__law_after : Fn := { name := (PySem.Str.ofString "_law_after"), qual := (PySem.Str.ofString "_law_after"), at_ := ((PySem.Str.ofString "_law_after"), none), params := [(PySem.Str.ofString "_law_rule"), (PySem.Str.ofString "_law_held"), (PySem.Str.ofString "_law_line"), (PySem.Str.ofString "_law_places")], N := [(PySem.Str.ofString "_law_rule"), (PySem.Str.ofString "_law_held"), (PySem.Str.ofString "_law_line"), (PySem.Str.ofString "_law_places"), (PySem.Str.ofString "_law_one")], body :=
  (.cons (.ifs (.cmp .In (.var 2) (.var 1)) (.cons (.ifs (.cmp .Eq (.var 0) (.str (PySem.Str.ofString "fifo"))) (.cons (.ret (.var 1)) .nil) .nil) (.cons (.ret (.bin .Add (.blt .tuple (.cons (.lc (.var 4) (.name 4) (.val (.var 1)) (.cons (.cmp .NotEq (.var 4) (.var 2)) .nil) [((PySem.Str.ofString "_law_one"), 4)]) .nil)) (.tup (.cons (.var 2) .nil)))) .nil)) .nil) (.cons (.ifs (.cmp .Eq (.blt .len (.cons (.var 1) .nil)) (.var 3)) (.cons (.ret (.bin .Add (.slc (.var 1) (.some (.int 1)) .none) (.tup (.cons (.var 2) .nil)))) .nil) .nil) (.cons (.ret (.bin .Add (.var 1) (.tup (.cons (.var 2) .nil)))) .nil))) }
def f__law_entry : Fn := { name := (PySem.Str.ofString "_law_entry"), qual := (PySem.Str.ofString "_law_entry"), at_ := ((PySem.Str.ofString "_law_entry"), none), params := [(PySem.Str.ofString "_law_entry_here"), (PySem.Str.ofString "_law_size")], N := [(PySem.Str.ofString "_law_entry_here"), (PySem.Str.ofString "_law_size")], body :=
  (.cons (.ifs (.bop .Or (.cons (.not (.blt .isi (.cons (.var 0) (.cons (.glb (PySem.Str.ofString "tuple") (.ty .tuple)) .nil)))) (.cons (.cmp .NotEq (.blt .len (.cons (.var 0) .nil)) (.int 2)) .nil))) (.cons (.ret (.bl false)) .nil) .nil) (.cons (.ret (.bop .And (.cons (.call (PySem.Str.ofString "_law_number") 3 (.cons (.sub (.var 0) (.int 0)) .nil)) (.cons (.call (PySem.Str.ofString "_law_number") 3 (.cons (.sub (.var 0) (.int 1)) .nil)) (.cons (.chn .LtE .Lt (.int 0) (.sub (.var 0) (.int 1)) (.var 1)) .nil))))) .nil)) }
def f__law_table : Fn := { name := (PySem.Str.ofString "_law_table"), qual := (PySem.Str.ofString "_law_table"), at_ := ((PySem.Str.ofString "_law_table"), none), params := [(PySem.Str.ofString "_law_table_here"), (PySem.Str.ofString "_law_rule"), (PySem.Str.ofString "_law_lines"), (PySem.Str.ofString "_law_places"), (PySem.Str.ofString "_law_penalty")], N := [(PySem.Str.ofString "_law_table_here"), (PySem.Str.ofString "_law_rule"), (PySem.Str.ofString "_law_lines"), (PySem.Str.ofString "_law_places"), (PySem.Str.ofString "_law_penalty"), (PySem.Str.ofString "_law_held"), (PySem.Str.ofString "_law_order"), (PySem.Str.ofString "_law_turn"), (PySem.Str.ofString "_law_here"), (PySem.Str.ofString "_law_row"), (PySem.Str.ofString "_law_line"), (PySem.Str.ofString "_law_due"), (PySem.Str.ofString "_law_after_here"), (PySem.Str.ofString "_law_one")], body :=
  (.cons (.ifs (.bop .Or (.cons (.not (.blt .isi (.cons (.var 0) (.cons (.glb (PySem.Str.ofString "list") (.ty .list)) .nil)))) (.cons (.not (.chn .LtE .LtE (.int 1) (.blt .len (.cons (.var 0) .nil)) (.int 16))) .nil))) (.cons (.ret (.bl false)) .nil) .nil) (.cons (.asg (.name 5) (.dic1 (.int 0) (.tup .nil))) (.cons (.asg (.name 6) (.lst (.cons (.int 0) .nil))) (.cons (.for_ (.name 7) (.rng (.cons (.int 16) .nil)) (.cons (.ifs (.cmp .Lt (.var 7) (.blt .len (.cons (.var 6) .nil))) (.cons (.asg (.name 8) (.sub (.var 5) (.sub (.var 6) (.var 7)))) (.cons (.asg (.name 9) (.sub (.var 0) (.sub (.var 6) (.var 7)))) (.cons (.ifs (.bop .Or (.cons (.not (.blt .isi (.cons (.var 9) (.cons (.glb (PySem.Str.ofString "list") (.ty .list)) .nil)))) (.cons (.cmp .NotEq (.blt .len (.cons (.var 9) .nil)) (.var 2)) .nil))) (.cons (.ret (.bl false)) .nil) .nil) (.cons (.for_ (.name 10) (.rng (.cons (.var 2) .nil)) (.cons (.ifs (.not (.call (PySem.Str.ofString "_law_entry") 5 (.cons (.sub (.var 9) (.var 10)) (.cons (.blt .len (.cons (.var 0) .nil)) .nil)))) (.cons (.ret (.bl false)) .nil) .nil) (.cons (.asg (.name 11) (.call (PySem.Str.ofString "_law_after") 4 (.cons (.var 1) (.cons (.var 8) (.cons (.var 10) (.cons (.var 3) .nil)))))) (.cons (.asg (.name 12) (.sub (.sub (.var 9) (.var 10)) (.int 1))) (.cons (.ifs (.cmp .NotEq (.sub (.sub (.var 9) (.var 10)) (.int 0)) (.bin .Mult (.var 4) (.blt .int (.cons (.cmp .NotIn (.var 10) (.var 8)) .nil)))) (.cons (.ret (.bl false)) .nil) .nil) (.cons (.ifs (.cmp .NotIn (.var 12) (.var 5)) (.cons (.ifs (.cmp .In (.var 11) (.lc (.sub (.var 5) (.var 13)) (.name 13) (.val (.var 6)) .nil [((PySem.Str.ofString "_law_one"), 13)])) (.cons (.ret (.bl false)) .nil) .nil) (.cons (.asg (.sub (.var 5) (.var 12)) (.var 11)) (.cons (.exp (.mth (.var 6) .append (.cons (.var 12) .nil))) .nil))) .nil) (.cons (.ifs (.cmp .NotEq (.sub (.var 5) (.var 12)) (.var 11)) (.cons (.ret (.bl false)) .nil) .nil) .nil))))))) .nil)))) .nil) .nil)) (.cons (.ret (.cmp .Eq (.blt .len (.cons (.var 6) .nil)) (.blt .len (.cons (.var 0) .nil)))) .nil))))) }
def f_law : Fn := { name := (PySem.Str.ofString "law"), qual := (PySem.Str.ofString "law"), at_ := ((PySem.Str.ofString "law"), none), params := [(PySem.Str.ofString "_law_script")], N := [(PySem.Str.ofString "_law_script"), (PySem.Str.ofString "_law_d"), (PySem.Str.ofString "_law_rule"), (PySem.Str.ofString "_law_lines"), (PySem.Str.ofString "_law_places"), (PySem.Str.ofString "_law_table_here"), (PySem.Str.ofString "_law_again"), (PySem.Str.ofString "_law_other")], body :=
  (.cons (.asg (.name 1) (.call (PySem.Str.ofString "_law_draws") 2 (.cons (.var 0) (.cons (.int 0) (.cons (.lst (.cons (.int 2) (.cons (.int 3) (.cons (.int 3) (.cons (.int 3) .nil))))) .nil))))) (.cons (.asg (.name 2) (.sub (.lst (.cons (.str (PySem.Str.ofString "lru")) (.cons (.str (PySem.Str.ofString "fifo")) .nil))) (.sub (.var 1) (.int 0)))) (.cons (.asg (.name 3) (.bin .Add (.int 1) (.sub (.var 1) (.int 1)))) (.cons (.asg (.name 4) (.bin .Add (.int 1) (.sub (.var 1) (.int 2)))) (.cons (.asg (.name 5) (.call (PySem.Str.ofString "cache_table") 1 (.cons (.var 2) (.cons (.var 3) (.cons (.var 4) (.cons (.sub (.var 1) (.int 3)) .nil)))))) (.cons (.ifs (.not (.call (PySem.Str.ofString "_law_table") 6 (.cons (.var 5) (.cons (.var 2) (.cons (.var 3) (.cons (.var 4) (.cons (.sub (.var 1) (.int 3)) .nil))))))) (.cons (.ret (.bl false)) .nil) .nil) (.cons (.asg (.sub (.sub (.var 5) (.int 0)) (.int 0)) (.tup (.cons (.int 7) (.cons (.int 7) .nil)))) (.cons (.exp (.mth (.var 5) .append (.cons (.lst .nil) .nil))) (.cons (.asg (.name 6) (.call (PySem.Str.ofString "cache_table") 1 (.cons (.var 2) (.cons (.var 3) (.cons (.var 4) (.cons (.sub (.var 1) (.int 3)) .nil)))))) (.cons (.asg (.name 7) (.call (PySem.Str.ofString "cache_table") 1 (.cons (.sub (.lst (.cons (.str (PySem.Str.ofString "fifo")) (.cons (.str (PySem.Str.ofString "lru")) .nil))) (.sub (.var 1) (.int 0))) (.cons (.var 3) (.cons (.var 4) (.cons (.bin .Sub (.int 2) (.sub (.var 1) (.int 3))) .nil)))))) (.cons (.ifs (.not (.call (PySem.Str.ofString "_law_table") 6 (.cons (.var 7) (.cons (.sub (.lst (.cons (.str (PySem.Str.ofString "fifo")) (.cons (.str (PySem.Str.ofString "lru")) .nil))) (.sub (.var 1) (.int 0))) (.cons (.var 3) (.cons (.var 4) (.cons (.bin .Sub (.int 2) (.sub (.var 1) (.int 3))) .nil))))))) (.cons (.ret (.bl false)) .nil) .nil) (.cons (.ret (.call (PySem.Str.ofString "_law_table") 6 (.cons (.var 6) (.cons (.var 2) (.cons (.var 3) (.cons (.var 4) (.cons (.sub (.var 1) (.int 3)) .nil))))))) .nil)))))))))))) }
def prog : Prog := { fns := [f__held_after, f_cache_table, f__law_draws, f__law_number, f__law_after, f__law_entry, f__law_table, f_law], cls := [], fuel := 1000000, glb := [((PySem.Str.ofString "bool"), .ty .bool), ((PySem.Str.ofString "int"), .ty .int), ((PySem.Str.ofString "list"), .ty .list), ((PySem.Str.ofString "tuple"), .ty .tuple)], free := [(PySem.Str.ofString "bool"), (PySem.Str.ofString "int"), (PySem.Str.ofString "isinstance"), (PySem.Str.ofString "len"), (PySem.Str.ofString "list"), (PySem.Str.ofString "range"), (PySem.Str.ofString "tuple")] }
abbrev pw : PySem.Program := PySem.Challenge.pw_quickharm_k06_cache_tables
def top (i : Nat) : PySem.Stmt := pw.main.body.getD i (.Pass ⟨0, 0, 0, 0⟩)
def d__held_after : He.DefD := ⟨((PySem.Str.ofString "_held_after"), none), (PySem.Str.ofString "_held_after"), (PySem.Str.ofString "_held_after"), L2.defArgs (top 1), L2.defBody (top 1), L2.defScope (top 1), [], []⟩
def d_cache_table : He.DefD := ⟨((PySem.Str.ofString "cache_table"), none), (PySem.Str.ofString "cache_table"), (PySem.Str.ofString "cache_table"), L2.defArgs (top 2), L2.defBody (top 2), L2.defScope (top 2), [], []⟩
def d__law_draws : He.DefD := ⟨((PySem.Str.ofString "_law_draws"), none), (PySem.Str.ofString "_law_draws"), (PySem.Str.ofString "_law_draws"), L2.defArgs (top 4), L2.defBody (top 4), L2.defScope (top 4), [], []⟩
def d__law_number : He.DefD := ⟨((PySem.Str.ofString "_law_number"), none), (PySem.Str.ofString "_law_number"), (PySem.Str.ofString "_law_number"), L2.defArgs (top 5), L2.defBody (top 5), L2.defScope (top 5), [], []⟩
def d__law_after : He.DefD := ⟨((PySem.Str.ofString "_law_after"), none), (PySem.Str.ofString "_law_after"), (PySem.Str.ofString "_law_after"), L2.defArgs (top 6), L2.defBody (top 6), L2.defScope (top 6), [], []⟩
def d__law_entry : He.DefD := ⟨((PySem.Str.ofString "_law_entry"), none), (PySem.Str.ofString "_law_entry"), (PySem.Str.ofString "_law_entry"), L2.defArgs (top 7), L2.defBody (top 7), L2.defScope (top 7), [], []⟩
def d__law_table : He.DefD := ⟨((PySem.Str.ofString "_law_table"), none), (PySem.Str.ofString "_law_table"), (PySem.Str.ofString "_law_table"), L2.defArgs (top 8), L2.defBody (top 8), L2.defScope (top 8), [], []⟩
def d_law : He.DefD := ⟨((PySem.Str.ofString "law"), none), (PySem.Str.ofString "law"), (PySem.Str.ofString "law"), L2.defArgs (top 9), L2.defBody (top 9), L2.defScope (top 9), [], []⟩
def ds : List He.DefD := [d__held_after, d_cache_table, d__law_draws, d__law_number, d__law_after, d__law_entry, d__law_table, d_law]
theorem bnd : BndAll prog.fns ds := ⟨fun _ _ _ _ _ _ us hl => match us, hl with | [_, _, _, _], _ => rfl, fun _ _ _ _ _ _ us hl => match us, hl with | [_, _, _, _], _ => rfl, fun _ _ _ _ _ _ us hl => match us, hl with | [_, _, _], _ => rfl, fun _ _ _ _ _ _ us hl => match us, hl with | [_], _ => rfl, fun _ _ _ _ _ _ us hl => match us, hl with | [_, _, _, _], _ => rfl, fun _ _ _ _ _ _ us hl => match us, hl with | [_, _], _ => rfl, fun _ _ _ _ _ _ us hl => match us, hl with | [_, _, _, _, _], _ => rfl, fun _ _ _ _ _ _ us hl => match us, hl with | [_], _ => rfl, True.intro⟩
def kb__held_after (C : Cfg) : { k : KS // exs C f__held_after.body = k } := by
  refine ⟨?_, ?h⟩
  case h =>
    simp only [f__held_after, k_var, k_non, k_bl, k_int, k_str, k_glb, k_bin, k_neg, k_cmp, k_chn, k_bop, k_b1, k_bc, k_not, k_ifx, k_nil, k_cons, k_tup, k_lst, k_dic0, k_dic1, k_sub, k_on, k_os, k_slc, k_call, k_blt, k_mth, k_yes, k_and, k_lc, k_iv, k_ir, k_tn, k_tt, k_ts, k_tsn, k_tsc, s_exp, s_doc, s_pass, s_ret, s_retN, s_brk, s_cnt, s_asg, s_aug, s_if, s_whl, s_for, s_nil, s_seq]
    exact rfl
def kb_cache_table (C : Cfg) : { k : KS // exs C f_cache_table.body = k } := by
  refine ⟨?_, ?h⟩
  case h =>
    simp only [f_cache_table, k_var, k_non, k_bl, k_int, k_str, k_glb, k_bin, k_neg, k_cmp, k_chn, k_bop, k_b1, k_bc, k_not, k_ifx, k_nil, k_cons, k_tup, k_lst, k_dic0, k_dic1, k_sub, k_on, k_os, k_slc, k_call, k_blt, k_mth, k_yes, k_and, k_lc, k_iv, k_ir, k_tn, k_tt, k_ts, k_tsn, k_tsc, s_exp, s_doc, s_pass, s_ret, s_retN, s_brk, s_cnt, s_asg, s_aug, s_if, s_whl, s_for, s_nil, s_seq]
    exact rfl
def kb__law_draws (C : Cfg) : { k : KS // exs C f__law_draws.body = k } := by
  refine ⟨?_, ?h⟩
  case h =>
    simp only [f__law_draws, k_var, k_non, k_bl, k_int, k_str, k_glb, k_bin, k_neg, k_cmp, k_chn, k_bop, k_b1, k_bc, k_not, k_ifx, k_nil, k_cons, k_tup, k_lst, k_dic0, k_dic1, k_sub, k_on, k_os, k_slc, k_call, k_blt, k_mth, k_yes, k_and, k_lc, k_iv, k_ir, k_tn, k_tt, k_ts, k_tsn, k_tsc, s_exp, s_doc, s_pass, s_ret, s_retN, s_brk, s_cnt, s_asg, s_aug, s_if, s_whl, s_for, s_nil, s_seq]
    exact rfl
def kb__law_number (C : Cfg) : { k : KS // exs C f__law_number.body = k } := by
  refine ⟨?_, ?h⟩
  case h =>
    simp only [f__law_number, k_var, k_non, k_bl, k_int, k_str, k_glb, k_bin, k_neg, k_cmp, k_chn, k_bop, k_b1, k_bc, k_not, k_ifx, k_nil, k_cons, k_tup, k_lst, k_dic0, k_dic1, k_sub, k_on, k_os, k_slc, k_call, k_blt, k_mth, k_yes, k_and, k_lc, k_iv, k_ir, k_tn, k_tt, k_ts, k_tsn, k_tsc, s_exp, s_doc, s_pass, s_ret, s_retN, s_brk, s_cnt, s_asg, s_aug, s_if, s_whl, s_for, s_nil, s_seq]
    exact rfl
def kb__law_after (C : Cfg) : { k : KS // exs C f__law_after.body = k } := by
  refine ⟨?_, ?h⟩
  case h =>
    simp only [f__law_after, k_var, k_non, k_bl, k_int, k_str, k_glb, k_bin, k_neg, k_cmp, k_chn, k_bop, k_b1, k_bc, k_not, k_ifx, k_nil, k_cons, k_tup, k_lst, k_dic0, k_dic1, k_sub, k_on, k_os, k_slc, k_call, k_blt, k_mth, k_yes, k_and, k_lc, k_iv, k_ir, k_tn, k_tt, k_ts, k_tsn, k_tsc, s_exp, s_doc, s_pass, s_ret, s_retN, s_brk, s_cnt, s_asg, s_aug, s_if, s_whl, s_for, s_nil, s_seq]
    exact rfl
def kb__law_entry (C : Cfg) : { k : KS // exs C f__law_entry.body = k } := by
  refine ⟨?_, ?h⟩
  case h =>
    simp only [f__law_entry, k_var, k_non, k_bl, k_int, k_str, k_glb, k_bin, k_neg, k_cmp, k_chn, k_bop, k_b1, k_bc, k_not, k_ifx, k_nil, k_cons, k_tup, k_lst, k_dic0, k_dic1, k_sub, k_on, k_os, k_slc, k_call, k_blt, k_mth, k_yes, k_and, k_lc, k_iv, k_ir, k_tn, k_tt, k_ts, k_tsn, k_tsc, s_exp, s_doc, s_pass, s_ret, s_retN, s_brk, s_cnt, s_asg, s_aug, s_if, s_whl, s_for, s_nil, s_seq]
    exact rfl
def kb__law_table (C : Cfg) : { k : KS // exs C f__law_table.body = k } := by
  refine ⟨?_, ?h⟩
  case h =>
    simp only [f__law_table, k_var, k_non, k_bl, k_int, k_str, k_glb, k_bin, k_neg, k_cmp, k_chn, k_bop, k_b1, k_bc, k_not, k_ifx, k_nil, k_cons, k_tup, k_lst, k_dic0, k_dic1, k_sub, k_on, k_os, k_slc, k_call, k_blt, k_mth, k_yes, k_and, k_lc, k_iv, k_ir, k_tn, k_tt, k_ts, k_tsn, k_tsc, s_exp, s_doc, s_pass, s_ret, s_retN, s_brk, s_cnt, s_asg, s_aug, s_if, s_whl, s_for, s_nil, s_seq]
    exact rfl
def kb_law (C : Cfg) : { k : KS // exs C f_law.body = k } := by
  refine ⟨?_, ?h⟩
  case h =>
    simp only [f_law, k_var, k_non, k_bl, k_int, k_str, k_glb, k_bin, k_neg, k_cmp, k_chn, k_bop, k_b1, k_bc, k_not, k_ifx, k_nil, k_cons, k_tup, k_lst, k_dic0, k_dic1, k_sub, k_on, k_os, k_slc, k_call, k_blt, k_mth, k_yes, k_and, k_lc, k_iv, k_ir, k_tn, k_tt, k_ts, k_tsn, k_tsc, s_exp, s_doc, s_pass, s_ret, s_retN, s_brk, s_cnt, s_asg, s_aug, s_if, s_whl, s_for, s_nil, s_seq]
    exact rfl
def rest : MSs := match f_law.body with
  | .cons _ ss => ss
  | .nil => .nil
def kb_rest (C : Cfg) : { k : KS // exs C rest = k } := by
  refine ⟨?_, ?h⟩
  case h =>
    simp only [rest, f_law, k_var, k_non, k_bl, k_int, k_str, k_glb, k_bin, k_neg, k_cmp, k_chn, k_bop, k_b1, k_bc, k_not, k_ifx, k_nil, k_cons, k_tup, k_lst, k_dic0, k_dic1, k_sub, k_on, k_os, k_slc, k_call, k_blt, k_mth, k_yes, k_and, k_lc, k_iv, k_ir, k_tn, k_tt, k_ts, k_tsn, k_tsc, s_exp, s_doc, s_pass, s_ret, s_retN, s_brk, s_cnt, s_asg, s_aug, s_if, s_whl, s_for, s_nil, s_seq]
    exact rfl
def kcall : Nat → Nat → List MV → MH → Out MV
  | 0 => fun _ _ _ => .bad
  | n + 1 => fun f vs h => match f with
    | 0 => kfn 4 5 (kb__held_after (prog.cfg (kcall n))).1 vs h
    | 1 => kfn 4 12 (kb_cache_table (prog.cfg (kcall n))).1 vs h
    | 2 => kfn 3 8 (kb__law_draws (prog.cfg (kcall n))).1 vs h
    | 3 => kfn 1 1 (kb__law_number (prog.cfg (kcall n))).1 vs h
    | 4 => kfn 4 5 (kb__law_after (prog.cfg (kcall n))).1 vs h
    | 5 => kfn 2 2 (kb__law_entry (prog.cfg (kcall n))).1 vs h
    | 6 => kfn 5 14 (kb__law_table (prog.cfg (kcall n))).1 vs h
    | 7 => kfn 1 8 (kb_law (prog.cfg (kcall n))).1 vs h
    | _ => .bad
theorem kcall_eq : ∀ n, kcall n = callM prog n
  | 0 => by funext f vs h; rfl
  | n + 1 => by
    have ih := kcall_eq n
    funext f vs h
    unfold kcall
    rw [ih]
    match f with
    | 0 => exact (callM_kfn (F := f__held_after) rfl (kb__held_after _).2).symm
    | 1 => exact (callM_kfn (F := f_cache_table) rfl (kb_cache_table _).2).symm
    | 2 => exact (callM_kfn (F := f__law_draws) rfl (kb__law_draws _).2).symm
    | 3 => exact (callM_kfn (F := f__law_number) rfl (kb__law_number _).2).symm
    | 4 => exact (callM_kfn (F := f__law_after) rfl (kb__law_after _).2).symm
    | 5 => exact (callM_kfn (F := f__law_entry) rfl (kb__law_entry _).2).symm
    | 6 => exact (callM_kfn (F := f__law_table) rfl (kb__law_table _).2).symm
    | 7 => exact (callM_kfn (F := f_law) rfl (kb_law _).2).symm
    | f + 8 => rfl
theorem ck : chkFs prog prog.fns ds = true := by decide +kernel
theorem cg : chkG prog = true := by decide +kernel
theorem e_0 (xs : List MV) : goodS ((kb_rest (prog.cfg (kcall 21))).1 (some (.ref 0) :: some (.ref 3) :: List.replicate 6 none) [.rol xs, .lst (([2, 3, 3, 3] : List Int).map .int), .lst [], .lst (([0, 0, 0, 0] : List Int).map .int)]) = true := by kernel_rfl
theorem e_1 (xs : List MV) : goodS ((kb_rest (prog.cfg (kcall 21))).1 (some (.ref 0) :: some (.ref 3) :: List.replicate 6 none) [.rol xs, .lst (([2, 3, 3, 3] : List Int).map .int), .lst [], .lst (([0, 0, 0, 1] : List Int).map .int)]) = true := by kernel_rfl
theorem e_2 (xs : List MV) : goodS ((kb_rest (prog.cfg (kcall 21))).1 (some (.ref 0) :: some (.ref 3) :: List.replicate 6 none) [.rol xs, .lst (([2, 3, 3, 3] : List Int).map .int), .lst [], .lst (([0, 0, 0, 2] : List Int).map .int)]) = true := by kernel_rfl
theorem e_3 (xs : List MV) : goodS ((kb_rest (prog.cfg (kcall 21))).1 (some (.ref 0) :: some (.ref 3) :: List.replicate 6 none) [.rol xs, .lst (([2, 3, 3, 3] : List Int).map .int), .lst [], .lst (([0, 0, 1, 0] : List Int).map .int)]) = true := by kernel_rfl
theorem e_4 (xs : List MV) : goodS ((kb_rest (prog.cfg (kcall 21))).1 (some (.ref 0) :: some (.ref 3) :: List.replicate 6 none) [.rol xs, .lst (([2, 3, 3, 3] : List Int).map .int), .lst [], .lst (([0, 0, 1, 1] : List Int).map .int)]) = true := by kernel_rfl
theorem e_5 (xs : List MV) : goodS ((kb_rest (prog.cfg (kcall 21))).1 (some (.ref 0) :: some (.ref 3) :: List.replicate 6 none) [.rol xs, .lst (([2, 3, 3, 3] : List Int).map .int), .lst [], .lst (([0, 0, 1, 2] : List Int).map .int)]) = true := by kernel_rfl
theorem e_6 (xs : List MV) : goodS ((kb_rest (prog.cfg (kcall 21))).1 (some (.ref 0) :: some (.ref 3) :: List.replicate 6 none) [.rol xs, .lst (([2, 3, 3, 3] : List Int).map .int), .lst [], .lst (([0, 0, 2, 0] : List Int).map .int)]) = true := by kernel_rfl
theorem e_7 (xs : List MV) : goodS ((kb_rest (prog.cfg (kcall 21))).1 (some (.ref 0) :: some (.ref 3) :: List.replicate 6 none) [.rol xs, .lst (([2, 3, 3, 3] : List Int).map .int), .lst [], .lst (([0, 0, 2, 1] : List Int).map .int)]) = true := by kernel_rfl
theorem e_8 (xs : List MV) : goodS ((kb_rest (prog.cfg (kcall 21))).1 (some (.ref 0) :: some (.ref 3) :: List.replicate 6 none) [.rol xs, .lst (([2, 3, 3, 3] : List Int).map .int), .lst [], .lst (([0, 0, 2, 2] : List Int).map .int)]) = true := by kernel_rfl
theorem e_9 (xs : List MV) : goodS ((kb_rest (prog.cfg (kcall 21))).1 (some (.ref 0) :: some (.ref 3) :: List.replicate 6 none) [.rol xs, .lst (([2, 3, 3, 3] : List Int).map .int), .lst [], .lst (([0, 1, 0, 0] : List Int).map .int)]) = true := by kernel_rfl
theorem e_10 (xs : List MV) : goodS ((kb_rest (prog.cfg (kcall 21))).1 (some (.ref 0) :: some (.ref 3) :: List.replicate 6 none) [.rol xs, .lst (([2, 3, 3, 3] : List Int).map .int), .lst [], .lst (([0, 1, 0, 1] : List Int).map .int)]) = true := by kernel_rfl
theorem e_11 (xs : List MV) : goodS ((kb_rest (prog.cfg (kcall 21))).1 (some (.ref 0) :: some (.ref 3) :: List.replicate 6 none) [.rol xs, .lst (([2, 3, 3, 3] : List Int).map .int), .lst [], .lst (([0, 1, 0, 2] : List Int).map .int)]) = true := by kernel_rfl
theorem e_12 (xs : List MV) : goodS ((kb_rest (prog.cfg (kcall 21))).1 (some (.ref 0) :: some (.ref 3) :: List.replicate 6 none) [.rol xs, .lst (([2, 3, 3, 3] : List Int).map .int), .lst [], .lst (([0, 1, 1, 0] : List Int).map .int)]) = true := by kernel_rfl
theorem e_13 (xs : List MV) : goodS ((kb_rest (prog.cfg (kcall 21))).1 (some (.ref 0) :: some (.ref 3) :: List.replicate 6 none) [.rol xs, .lst (([2, 3, 3, 3] : List Int).map .int), .lst [], .lst (([0, 1, 1, 1] : List Int).map .int)]) = true := by kernel_rfl
theorem e_14 (xs : List MV) : goodS ((kb_rest (prog.cfg (kcall 21))).1 (some (.ref 0) :: some (.ref 3) :: List.replicate 6 none) [.rol xs, .lst (([2, 3, 3, 3] : List Int).map .int), .lst [], .lst (([0, 1, 1, 2] : List Int).map .int)]) = true := by kernel_rfl
theorem e_15 (xs : List MV) : goodS ((kb_rest (prog.cfg (kcall 21))).1 (some (.ref 0) :: some (.ref 3) :: List.replicate 6 none) [.rol xs, .lst (([2, 3, 3, 3] : List Int).map .int), .lst [], .lst (([0, 1, 2, 0] : List Int).map .int)]) = true := by kernel_rfl
theorem e_16 (xs : List MV) : goodS ((kb_rest (prog.cfg (kcall 21))).1 (some (.ref 0) :: some (.ref 3) :: List.replicate 6 none) [.rol xs, .lst (([2, 3, 3, 3] : List Int).map .int), .lst [], .lst (([0, 1, 2, 1] : List Int).map .int)]) = true := by kernel_rfl
theorem e_17 (xs : List MV) : goodS ((kb_rest (prog.cfg (kcall 21))).1 (some (.ref 0) :: some (.ref 3) :: List.replicate 6 none) [.rol xs, .lst (([2, 3, 3, 3] : List Int).map .int), .lst [], .lst (([0, 1, 2, 2] : List Int).map .int)]) = true := by kernel_rfl
theorem e_18 (xs : List MV) : goodS ((kb_rest (prog.cfg (kcall 21))).1 (some (.ref 0) :: some (.ref 3) :: List.replicate 6 none) [.rol xs, .lst (([2, 3, 3, 3] : List Int).map .int), .lst [], .lst (([0, 2, 0, 0] : List Int).map .int)]) = true := by kernel_rfl
theorem e_19 (xs : List MV) : goodS ((kb_rest (prog.cfg (kcall 21))).1 (some (.ref 0) :: some (.ref 3) :: List.replicate 6 none) [.rol xs, .lst (([2, 3, 3, 3] : List Int).map .int), .lst [], .lst (([0, 2, 0, 1] : List Int).map .int)]) = true := by kernel_rfl
theorem e_20 (xs : List MV) : goodS ((kb_rest (prog.cfg (kcall 21))).1 (some (.ref 0) :: some (.ref 3) :: List.replicate 6 none) [.rol xs, .lst (([2, 3, 3, 3] : List Int).map .int), .lst [], .lst (([0, 2, 0, 2] : List Int).map .int)]) = true := by kernel_rfl
theorem e_21 (xs : List MV) : goodS ((kb_rest (prog.cfg (kcall 21))).1 (some (.ref 0) :: some (.ref 3) :: List.replicate 6 none) [.rol xs, .lst (([2, 3, 3, 3] : List Int).map .int), .lst [], .lst (([0, 2, 1, 0] : List Int).map .int)]) = true := by kernel_rfl
theorem e_22 (xs : List MV) : goodS ((kb_rest (prog.cfg (kcall 21))).1 (some (.ref 0) :: some (.ref 3) :: List.replicate 6 none) [.rol xs, .lst (([2, 3, 3, 3] : List Int).map .int), .lst [], .lst (([0, 2, 1, 1] : List Int).map .int)]) = true := by kernel_rfl
theorem e_23 (xs : List MV) : goodS ((kb_rest (prog.cfg (kcall 21))).1 (some (.ref 0) :: some (.ref 3) :: List.replicate 6 none) [.rol xs, .lst (([2, 3, 3, 3] : List Int).map .int), .lst [], .lst (([0, 2, 1, 2] : List Int).map .int)]) = true := by kernel_rfl
theorem e_24 (xs : List MV) : goodS ((kb_rest (prog.cfg (kcall 21))).1 (some (.ref 0) :: some (.ref 3) :: List.replicate 6 none) [.rol xs, .lst (([2, 3, 3, 3] : List Int).map .int), .lst [], .lst (([0, 2, 2, 0] : List Int).map .int)]) = true := by kernel_rfl
theorem e_25 (xs : List MV) : goodS ((kb_rest (prog.cfg (kcall 21))).1 (some (.ref 0) :: some (.ref 3) :: List.replicate 6 none) [.rol xs, .lst (([2, 3, 3, 3] : List Int).map .int), .lst [], .lst (([0, 2, 2, 1] : List Int).map .int)]) = true := by kernel_rfl
theorem e_26 (xs : List MV) : goodS ((kb_rest (prog.cfg (kcall 21))).1 (some (.ref 0) :: some (.ref 3) :: List.replicate 6 none) [.rol xs, .lst (([2, 3, 3, 3] : List Int).map .int), .lst [], .lst (([0, 2, 2, 2] : List Int).map .int)]) = true := by kernel_rfl
theorem e_27 (xs : List MV) : goodS ((kb_rest (prog.cfg (kcall 21))).1 (some (.ref 0) :: some (.ref 3) :: List.replicate 6 none) [.rol xs, .lst (([2, 3, 3, 3] : List Int).map .int), .lst [], .lst (([1, 0, 0, 0] : List Int).map .int)]) = true := by kernel_rfl
theorem e_28 (xs : List MV) : goodS ((kb_rest (prog.cfg (kcall 21))).1 (some (.ref 0) :: some (.ref 3) :: List.replicate 6 none) [.rol xs, .lst (([2, 3, 3, 3] : List Int).map .int), .lst [], .lst (([1, 0, 0, 1] : List Int).map .int)]) = true := by kernel_rfl
theorem e_29 (xs : List MV) : goodS ((kb_rest (prog.cfg (kcall 21))).1 (some (.ref 0) :: some (.ref 3) :: List.replicate 6 none) [.rol xs, .lst (([2, 3, 3, 3] : List Int).map .int), .lst [], .lst (([1, 0, 0, 2] : List Int).map .int)]) = true := by kernel_rfl
theorem e_30 (xs : List MV) : goodS ((kb_rest (prog.cfg (kcall 21))).1 (some (.ref 0) :: some (.ref 3) :: List.replicate 6 none) [.rol xs, .lst (([2, 3, 3, 3] : List Int).map .int), .lst [], .lst (([1, 0, 1, 0] : List Int).map .int)]) = true := by kernel_rfl
theorem e_31 (xs : List MV) : goodS ((kb_rest (prog.cfg (kcall 21))).1 (some (.ref 0) :: some (.ref 3) :: List.replicate 6 none) [.rol xs, .lst (([2, 3, 3, 3] : List Int).map .int), .lst [], .lst (([1, 0, 1, 1] : List Int).map .int)]) = true := by kernel_rfl
theorem e_32 (xs : List MV) : goodS ((kb_rest (prog.cfg (kcall 21))).1 (some (.ref 0) :: some (.ref 3) :: List.replicate 6 none) [.rol xs, .lst (([2, 3, 3, 3] : List Int).map .int), .lst [], .lst (([1, 0, 1, 2] : List Int).map .int)]) = true := by kernel_rfl
theorem e_33 (xs : List MV) : goodS ((kb_rest (prog.cfg (kcall 21))).1 (some (.ref 0) :: some (.ref 3) :: List.replicate 6 none) [.rol xs, .lst (([2, 3, 3, 3] : List Int).map .int), .lst [], .lst (([1, 0, 2, 0] : List Int).map .int)]) = true := by kernel_rfl
theorem e_34 (xs : List MV) : goodS ((kb_rest (prog.cfg (kcall 21))).1 (some (.ref 0) :: some (.ref 3) :: List.replicate 6 none) [.rol xs, .lst (([2, 3, 3, 3] : List Int).map .int), .lst [], .lst (([1, 0, 2, 1] : List Int).map .int)]) = true := by kernel_rfl
theorem e_35 (xs : List MV) : goodS ((kb_rest (prog.cfg (kcall 21))).1 (some (.ref 0) :: some (.ref 3) :: List.replicate 6 none) [.rol xs, .lst (([2, 3, 3, 3] : List Int).map .int), .lst [], .lst (([1, 0, 2, 2] : List Int).map .int)]) = true := by kernel_rfl
theorem e_36 (xs : List MV) : goodS ((kb_rest (prog.cfg (kcall 21))).1 (some (.ref 0) :: some (.ref 3) :: List.replicate 6 none) [.rol xs, .lst (([2, 3, 3, 3] : List Int).map .int), .lst [], .lst (([1, 1, 0, 0] : List Int).map .int)]) = true := by kernel_rfl
theorem e_37 (xs : List MV) : goodS ((kb_rest (prog.cfg (kcall 21))).1 (some (.ref 0) :: some (.ref 3) :: List.replicate 6 none) [.rol xs, .lst (([2, 3, 3, 3] : List Int).map .int), .lst [], .lst (([1, 1, 0, 1] : List Int).map .int)]) = true := by kernel_rfl
theorem e_38 (xs : List MV) : goodS ((kb_rest (prog.cfg (kcall 21))).1 (some (.ref 0) :: some (.ref 3) :: List.replicate 6 none) [.rol xs, .lst (([2, 3, 3, 3] : List Int).map .int), .lst [], .lst (([1, 1, 0, 2] : List Int).map .int)]) = true := by kernel_rfl
theorem e_39 (xs : List MV) : goodS ((kb_rest (prog.cfg (kcall 21))).1 (some (.ref 0) :: some (.ref 3) :: List.replicate 6 none) [.rol xs, .lst (([2, 3, 3, 3] : List Int).map .int), .lst [], .lst (([1, 1, 1, 0] : List Int).map .int)]) = true := by kernel_rfl
theorem e_40 (xs : List MV) : goodS ((kb_rest (prog.cfg (kcall 21))).1 (some (.ref 0) :: some (.ref 3) :: List.replicate 6 none) [.rol xs, .lst (([2, 3, 3, 3] : List Int).map .int), .lst [], .lst (([1, 1, 1, 1] : List Int).map .int)]) = true := by kernel_rfl
theorem e_41 (xs : List MV) : goodS ((kb_rest (prog.cfg (kcall 21))).1 (some (.ref 0) :: some (.ref 3) :: List.replicate 6 none) [.rol xs, .lst (([2, 3, 3, 3] : List Int).map .int), .lst [], .lst (([1, 1, 1, 2] : List Int).map .int)]) = true := by kernel_rfl
theorem e_42 (xs : List MV) : goodS ((kb_rest (prog.cfg (kcall 21))).1 (some (.ref 0) :: some (.ref 3) :: List.replicate 6 none) [.rol xs, .lst (([2, 3, 3, 3] : List Int).map .int), .lst [], .lst (([1, 1, 2, 0] : List Int).map .int)]) = true := by kernel_rfl
theorem e_43 (xs : List MV) : goodS ((kb_rest (prog.cfg (kcall 21))).1 (some (.ref 0) :: some (.ref 3) :: List.replicate 6 none) [.rol xs, .lst (([2, 3, 3, 3] : List Int).map .int), .lst [], .lst (([1, 1, 2, 1] : List Int).map .int)]) = true := by kernel_rfl
theorem e_44 (xs : List MV) : goodS ((kb_rest (prog.cfg (kcall 21))).1 (some (.ref 0) :: some (.ref 3) :: List.replicate 6 none) [.rol xs, .lst (([2, 3, 3, 3] : List Int).map .int), .lst [], .lst (([1, 1, 2, 2] : List Int).map .int)]) = true := by kernel_rfl
theorem e_45 (xs : List MV) : goodS ((kb_rest (prog.cfg (kcall 21))).1 (some (.ref 0) :: some (.ref 3) :: List.replicate 6 none) [.rol xs, .lst (([2, 3, 3, 3] : List Int).map .int), .lst [], .lst (([1, 2, 0, 0] : List Int).map .int)]) = true := by kernel_rfl
theorem e_46 (xs : List MV) : goodS ((kb_rest (prog.cfg (kcall 21))).1 (some (.ref 0) :: some (.ref 3) :: List.replicate 6 none) [.rol xs, .lst (([2, 3, 3, 3] : List Int).map .int), .lst [], .lst (([1, 2, 0, 1] : List Int).map .int)]) = true := by kernel_rfl
theorem e_47 (xs : List MV) : goodS ((kb_rest (prog.cfg (kcall 21))).1 (some (.ref 0) :: some (.ref 3) :: List.replicate 6 none) [.rol xs, .lst (([2, 3, 3, 3] : List Int).map .int), .lst [], .lst (([1, 2, 0, 2] : List Int).map .int)]) = true := by kernel_rfl
theorem e_48 (xs : List MV) : goodS ((kb_rest (prog.cfg (kcall 21))).1 (some (.ref 0) :: some (.ref 3) :: List.replicate 6 none) [.rol xs, .lst (([2, 3, 3, 3] : List Int).map .int), .lst [], .lst (([1, 2, 1, 0] : List Int).map .int)]) = true := by kernel_rfl
theorem e_49 (xs : List MV) : goodS ((kb_rest (prog.cfg (kcall 21))).1 (some (.ref 0) :: some (.ref 3) :: List.replicate 6 none) [.rol xs, .lst (([2, 3, 3, 3] : List Int).map .int), .lst [], .lst (([1, 2, 1, 1] : List Int).map .int)]) = true := by kernel_rfl
theorem e_50 (xs : List MV) : goodS ((kb_rest (prog.cfg (kcall 21))).1 (some (.ref 0) :: some (.ref 3) :: List.replicate 6 none) [.rol xs, .lst (([2, 3, 3, 3] : List Int).map .int), .lst [], .lst (([1, 2, 1, 2] : List Int).map .int)]) = true := by kernel_rfl
theorem e_51 (xs : List MV) : goodS ((kb_rest (prog.cfg (kcall 21))).1 (some (.ref 0) :: some (.ref 3) :: List.replicate 6 none) [.rol xs, .lst (([2, 3, 3, 3] : List Int).map .int), .lst [], .lst (([1, 2, 2, 0] : List Int).map .int)]) = true := by kernel_rfl
theorem e_52 (xs : List MV) : goodS ((kb_rest (prog.cfg (kcall 21))).1 (some (.ref 0) :: some (.ref 3) :: List.replicate 6 none) [.rol xs, .lst (([2, 3, 3, 3] : List Int).map .int), .lst [], .lst (([1, 2, 2, 1] : List Int).map .int)]) = true := by kernel_rfl
theorem e_53 (xs : List MV) : goodS ((kb_rest (prog.cfg (kcall 21))).1 (some (.ref 0) :: some (.ref 3) :: List.replicate 6 none) [.rol xs, .lst (([2, 3, 3, 3] : List Int).map .int), .lst [], .lst (([1, 2, 2, 2] : List Int).map .int)]) = true := by kernel_rfl
theorem every (xs : List MV) : (allDraws [2, 3, 3, 3]).all (fun ds => goodS ((kb_rest (prog.cfg (kcall 21))).1 (some (.ref 0) :: some (.ref 3) :: List.replicate 6 none) [.rol xs, .lst (([2, 3, 3, 3] : List Int).map .int), .lst [], .lst (ds.map .int)])) = true := by
  have e : allDraws [2, 3, 3, 3] = [[0, 0, 0, 0], [0, 0, 0, 1], [0, 0, 0, 2], [0, 0, 1, 0], [0, 0, 1, 1], [0, 0, 1, 2], [0, 0, 2, 0], [0, 0, 2, 1], [0, 0, 2, 2], [0, 1, 0, 0], [0, 1, 0, 1], [0, 1, 0, 2], [0, 1, 1, 0], [0, 1, 1, 1], [0, 1, 1, 2], [0, 1, 2, 0], [0, 1, 2, 1], [0, 1, 2, 2], [0, 2, 0, 0], [0, 2, 0, 1], [0, 2, 0, 2], [0, 2, 1, 0], [0, 2, 1, 1], [0, 2, 1, 2], [0, 2, 2, 0], [0, 2, 2, 1], [0, 2, 2, 2], [1, 0, 0, 0], [1, 0, 0, 1], [1, 0, 0, 2], [1, 0, 1, 0], [1, 0, 1, 1], [1, 0, 1, 2], [1, 0, 2, 0], [1, 0, 2, 1], [1, 0, 2, 2], [1, 1, 0, 0], [1, 1, 0, 1], [1, 1, 0, 2], [1, 1, 1, 0], [1, 1, 1, 1], [1, 1, 1, 2], [1, 1, 2, 0], [1, 1, 2, 1], [1, 1, 2, 2], [1, 2, 0, 0], [1, 2, 0, 1], [1, 2, 0, 2], [1, 2, 1, 0], [1, 2, 1, 1], [1, 2, 1, 2], [1, 2, 2, 0], [1, 2, 2, 1], [1, 2, 2, 2]] := by decide +kernel
  rw [e]
  simp only [List.all_cons, List.all_nil, Bool.and_true, Bool.and_eq_true]
  exact ⟨e_0 xs, e_1 xs, e_2 xs, e_3 xs, e_4 xs, e_5 xs, e_6 xs, e_7 xs, e_8 xs, e_9 xs, e_10 xs, e_11 xs, e_12 xs, e_13 xs, e_14 xs, e_15 xs, e_16 xs, e_17 xs, e_18 xs, e_19 xs, e_20 xs, e_21 xs, e_22 xs, e_23 xs, e_24 xs, e_25 xs, e_26 xs, e_27 xs, e_28 xs, e_29 xs, e_30 xs, e_31 xs, e_32 xs, e_33 xs, e_34 xs, e_35 xs, e_36 xs, e_37 xs, e_38 xs, e_39 xs, e_40 xs, e_41 xs, e_42 xs, e_43 xs, e_44 xs, e_45 xs, e_46 xs, e_47 xs, e_48 xs, e_49 xs, e_50 xs, e_51 xs, e_52 xs, e_53 xs⟩

theorem runs (ns : List Int) : ∃ h', callM prog 22 7 [.ref 0] (scrM ns) = .ok (.bl true) h' :=
  law_few (n := 20) (f := 2) (m := 6) (k := 0) (x := (PySem.Str.ofString "_law_size")) (y := (PySem.Str.ofString "_law_draws")) (sizes := [2, 3, 3, 3]) (rest := rest) rfl (by kernel_rfl) rfl rfl (by decide) (by decide) (by decide) rfl rfl rfl rfl (fun xs => by
    rw [(kb_rest (prog.cfg (callM prog 21))).2, ← kcall_eq]
    exact every xs) ns
end K06
open PySem PySem.W PySem.Calls PyProof.Rows
namespace K06
abbrev R : PySem.W.OpenRow := PySem.W.OpenLaw.row PySem.Challenge.rw_quickharm_k06_cache_tables
abbrev hk : PySem.W.Hook := Mi.hookM 4 (Mi.faOf prog) ds
def ob (s : PySem.W.SharedT) : Mi.AlM := Mi.obsM 4 (Mi.faOf prog) ds (HandSHeadRun.getT s)
theorem ob_eq (s : PySem.W.SharedT) : ob s = hk.obs s.abs := Mi.obsM_eq (HandSHeadRun.getT_eq s)
def loose : List PySem.Str := [(PySem.Str.ofString "_held_after"), (PySem.Str.ofString "cache_table"), (PySem.Str.ofString "_law_draws"), (PySem.Str.ofString "_law_number"), (PySem.Str.ofString "_law_after"), (PySem.Str.ofString "_law_entry"), (PySem.Str.ofString "_law_table")]
theorem run (w : World) : HandSHeadRun.RunEq R (PySem.W.view R.prog [9]) hk ob 4000 loose w := by
  intro os
  kernel_rfl
end K06
theorem PySem.Challenge.cw_quickharm_k06_cache_tables_holds : PySem.Challenge.rw_quickharm_k06_cache_tables.Holds := by
  w_on; o_law
  refine HandSHeadRun.head_any (r := OpenLaw.row PySem.Challenge.rw_quickharm_k06_cache_tables) (q := view (OpenLaw.row PySem.Challenge.rw_quickharm_k06_cache_tables).prog [9]) (H := K06.hk) (ob := K06.ob) (M := 4000) (loose := K06.loose) (d := HandSHeadRun.topDef (OpenLaw.row PySem.Challenge.rw_quickharm_k06_cache_tables).prog 9) (kwd := []) K06.ob_eq
    (by kernel_rfl) (fun s => by kernel_rfl) K06.run (by kernel_rfl) (by kernel_rfl) (by kernel_rfl) (by rfl) (by first | assumption | decide +kernel) (by decide +kernel) ⟨rfl, rfl, rfl, rfl, rfl, by decide +kernel⟩ ?hw ?hc
  case hw => w_witness2
  case hc =>
    refine L2.walk_ofE (l := PySem.Challenge.rw_quickharm_k06_cache_tables) (n := 63) (k := 2 * 22) (x := "_law_script") (CX := L2.CX0) rfl (by decide) (by kernel_rfl) ⟨rfl, by decide, by decide⟩ ?F (fun _ _ _ _ z => z)
    intro w mg fa h Y G hmg0
    obtain ⟨K, KX, c, nl⟩ := Y
    have hmg : mg K06.f_law.at_.1 = some (.ref fa) := by
      have e : (HandSHeadRun.topDef (OpenLaw.row PySem.Challenge.rw_quickharm_k06_cache_tables).prog 9).name = K06.f_law.at_.1 := by kernel_rfl
      rw [← e]
      exact hmg0
    obtain ⟨fd, sp, hb, h1, h2⟩ := Mi.head_fn (P := K06.prog) (ds := K06.ds) (n := 22) (li := 7) (most := 63) (F := K06.f_law) (x := "_law_script") (Pr := (PySem.Challenge.rw_quickharm_k06_cache_tables).prog) (w := w) K06.ck K06.cg rfl K06.bnd rfl rfl (fun ns _ => K06.runs ns) KX G c nl rfl hmg
    exact ⟨K, fd, sp, KX, hb, h1, h2⟩

