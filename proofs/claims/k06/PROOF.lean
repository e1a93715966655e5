import PyProof.Rows.All
import Wide.All
import OpenK.AllK
import Wide.FinOn
import HandS.ForMost
import HandS.Wide
import HandS.Deep
import HandS.TupAny
import HandS.TupMul
import HandS.TupLen
import HandS.Style
import HandS.ForExc
import HandS.Flow
import HandS.More
import HandS.IsInst
import HandS.TupSets
import HandS.RevRange
import HandS.Conv
import HandS.Comp
import HandS.Words
import HandS.ExcOwn
import HandS.Ends
import PySem.Challenge.RW_eitherfields_k06_agreeing_and_mixing
set_option Elab.async false
set_option linter.all false
set_option maxRecDepth 100000
section
/-! Q: a small language without positions, and what it does. -/
namespace Q
open PySem

/-- a value that never changes -/
inductive PV where
  | non | bl (b : Bool) | int (i : Int) | str (x : Str) | tup (xs : List PV) | lst (xs : List PV) | scr (xs : List Int) | obj (n : Nat)
/-- what a slot may own -/
inductive LD where
  | lst (xs : List PV) | dct (t : Bool) (kvs : List (PV × PV))
inductive SV where
  | v (p : PV) | own (d : LD)
abbrev Env := List (Option SV)
/-- an instance: its class, its fields -/
structure GI where
  cls : Str
  flds : List (Str × PV)
structure ST where
  env : Env
  g : List GI
/-- an exception: its class, what it keeps -/
structure XV where
  cls : Str
  arg : Option (Str × PV)
inductive ER where
  | v (p : PV) | own (d : LD) | slot (i : Nat)
inductive DV where
  | v (p : PV) | d (l : LD) | bad
inductive Out (α : Type) where
  | ok (a : α) (st : ST) | exc (x : XV) (st : ST) | bad
def Out.bind {α β : Type} (o : Out α) (f : α → ST → Out β) : Out β := match o with
  | .ok a st => f a st
  | .exc x st => .exc x st
  | .bad => .bad
def Out.wp {α : Type} (o : Out α) (Qk : α → ST → Prop) (Ek : XV → ST → Prop) : Prop := match o with
  | .ok a st => Qk a st
  | .exc x st => Ek x st
  | .bad => False
@[simp] theorem bind_ok {α β : Type} (a : α) (st : ST) (f : α → ST → Out β) : (Out.ok a st).bind f = f a st := rfl
@[simp] theorem bind_exc {α β : Type} (x : XV) (st : ST) (f : α → ST → Out β) : (Out.exc x st).bind f = .exc x st := rfl
@[simp] theorem bind_bad {α β : Type} (f : α → ST → Out β) : (Out.bad : Out α).bind f = .bad := rfl
@[simp] theorem wp_ok {α : Type} (a : α) (st : ST) (q : α → ST → Prop) (e : XV → ST → Prop) : (Out.ok a st).wp q e ↔ q a st := Iff.rfl
@[simp] theorem wp_exc {α : Type} (x : XV) (st : ST) (q : α → ST → Prop) (e : XV → ST → Prop) : (Out.exc x st : Out α).wp q e ↔ e x st := Iff.rfl
@[simp] theorem wp_bad {α : Type} (q : α → ST → Prop) (e : XV → ST → Prop) : (Out.bad : Out α).wp q e ↔ False := Iff.rfl
theorem wp_bind {α β : Type} (o : Out α) (f : α → ST → Out β) (q : β → ST → Prop) (e : XV → ST → Prop) : (o.bind f).wp q e ↔ o.wp (fun a st => (f a st).wp q e) e := by
  cases o <;> exact Iff.rfl
theorem wp_mono {α : Type} {o : Out α} {q q' : α → ST → Prop} {e e' : XV → ST → Prop} (h : o.wp q e) (hq : ∀ a st, q a st → q' a st) (he : ∀ x st, e x st → e' x st) : o.wp q' e' := by
  cases o with
  | ok a st => exact hq a st h
  | exc x st => exact he x st h
  | bad => exact h.elim

/-! ### data -/
mutual
def PV.toD : PV → PyData
  | .non => .none
  | .bl b => .bool b
  | .int i => .int i
  | .str x => .str x
  | .tup xs => .tuple (PV.toDs xs)
  | .lst xs => .list (PV.toDs xs)
  | .scr _ => .dict []
  | .obj _ => .dict []
def PV.toDs : List PV → List PyData
  | [] => []
  | x :: xs => PV.toD x :: PV.toDs xs
end
theorem toDs_map : ∀ xs : List PV, PV.toDs xs = xs.map PV.toD
  | [] => rfl
  | x :: xs => by rw [PV.toDs, toDs_map xs]; rfl
/-- values that == takes -/
def PV.fit (p : PV) : Bool := SeqAt.shaped p.toD
def PV.eqv (p q : PV) : Bool := PyData.eqv p.toD q.toD

/-! ### slots, references -/
def envAt (st : ST) (i : Nat) : Option SV := (st.env[i]?).join
def ST.put (st : ST) (i : Nat) (s : Option SV) : ST := { st with env := st.env.set i s }
def wipeE (e : Env) : List Nat → Env
  | [] => e
  | i :: r => (wipeE e r).set i none
def ER.get (st : ST) : ER → DV
  | .v p => .v p
  | .own d => .d d
  | .slot i => match envAt st i with
    | some (.v p) => .v p
    | some (.own d) => .d d
    | none => .bad
/-- read as a value (a list as it stands) -/
def DV.pv : DV → Option PV
  | .v p => some p
  | .d (.lst xs) => some (.lst xs)
  | _ => none
/-- the items of a list or a tuple -/
def DV.seq : DV → Option (List PV)
  | .v (.tup xs) => some xs
  | .v (.lst xs) => some xs
  | .v (.scr ns) => some (ns.map .int)
  | .d (.lst xs) => some xs
  | _ => none
def DV.lst : DV → Option (List PV)
  | .v (.lst xs) => some xs
  | .d (.lst xs) => some xs
  | _ => none
/-- made a value for good: a slot's list is a value from then on -/
def ER.frz (st : ST) : ER → Option (PV × ST)
  | .v p => some (p, st)
  | .own (.lst xs) => some (.lst xs, st)
  | .own (.dct _ _) => none
  | .slot i => match envAt st i with
    | some (.v p) => some (p, st)
    | some (.own (.lst xs)) => some (.lst xs, st.put i (some (.v (.lst xs))))
    | _ => none
def frzO {α : Type} (o : Out ER) (f : PV → ST → Out α) : Out α := o.bind fun e st => match e.frz st with
  | some (p, st') => f p st'
  | none => .bad
def optO {α β : Type} (o : Option α) (f : α → Out β) : Out β := match o with
  | some a => f a
  | none => .bad
@[simp] theorem optO_some {α β : Type} (a : α) (f : α → Out β) : optO (some a) f = f a := rfl
@[simp] theorem optO_none {α β : Type} (f : α → Out β) : optO none f = .bad := rfl

/-! ### syntax -/
inductive CT where
  | int | bool | str | tuple | list
  deriving DecidableEq
def CT.name : CT → String
  | .int => "int"
  | .bool => "bool"
  | .str => "str"
  | .tuple => "tuple"
  | .list => "list"

inductive BF where
  | len | int | abs | tuple | list | all | repr | str | bool | max2 | min2 | sortedSet | lenSet | sorted
  deriving DecidableEq
inductive MF where
  | get1 | get2 | index | join | split | upper
  deriving DecidableEq
inductive MM where
  | append | extend | pop | popAt | insert | clear
  deriving DecidableEq
/-- a target: a name, or a tuple of names -/
inductive Tg where
  | v (i : Nat) | t (is : List Nat)
/-- an argument that a parameter gets: the k-th written one, or the default -/
inductive CA where
  | a (i : Nat) | d (p : PV)
mutual
inductive E where
  | c (p : PV)
  | gc (x : Str) (p : PV)
  | var (i : Nat)
  | bin (op : Operator) (a b : E)
  | neg (a : E)
  | not (a : E)
  | and (a b : E)
  | or (a b : E)
  | cmp (op : CmpOp) (a b : E)
  | chain (o1 o2 : CmpOp) (a b d : E)
  | ifx (t : T) (a b : E)
  | tup (es : EL)
  | lst (es : EL)
  | dnew (t : Bool)
  | idx (a b : E)
  | sl (a : E) (lo hi : OE)
  | call (f : Str) (args : EL)
  | callp (f : Str) (ps : List CA) (args kws : EL)
  | blt (f : BF) (args : EL)
  | meth (m : MF) (o : E) (args : EL)
  | mut (m : MM) (i : Nat) (args : EL)
  | lc (ws : List Nat) (tg : Tg) (it : IT) (cond : T) (elt : E)
  | lc2 (ws ws1 : List Nat) (tg : Tg) (it : IT) (cond : T) (tg1 : Tg) (it1 : IT) (cond1 : T) (elt : E)
  | dc (ws : List Nat) (tg : Tg) (it : IT) (k v : E)
  | isi (a : E) (c : CT)
  | fstr (es : EL)
  | bad
inductive T where
  | tt | e (a : E) | and (a b : T) | or (a b : T) | not (a : T)
inductive OE where
  | no | yes (e : E)
inductive EL where
  | nil | cons (e : E) (r : EL)
inductive IT where
  | seq (a : E) | rng1 (a : E) | rng2 (a b : E) | rng3 (a b c : E) | rev1 (a : E)
end
mutual
inductive S where
  | asg (t : Tg) (e : E)
  | par (is : List Nat) (es : EL)
  | aug (i : Nat) (op : Operator) (e : E)
  | sub (i : Nat) (k e : E)
  | ex (e : E)
  | ife (t : T) (a b : SL)
  | for_ (t : Tg) (it : IT) (b : SL)
  | whl (t : T) (b : SL)
  | ret (e : E)
  | retn | brk | cnt | pass
  | raise (cls : Str) (m : Str)
  | bad
inductive SL where
  | nil | cons (s : S) (r : SL)
end
/-- a function: its slots' number, its parameters' number, the parameters that are stored anew, its body -/
structure Fn where
  n : Nat
  np : Nat
  re : List Nat
  body : SL
end Q
end
section
namespace Q
open PySem
def line : Nat := 16777216
/-! ### operators -/
def mulOk (i j : Int) : Bool := decide (i.natAbs.log2 + j.natAbs.log2 < 1000000)
def powOk (i j : Int) : Bool := decide (0 ≤ j) && decide (j ≤ 1000000) && decide (i.natAbs < 18446744073709551616)
def binI (op : Operator) (a b : Int) : Option Int := match op with
  | .Add => some (a + b)
  | .Sub => some (a - b)
  | .Mult => if mulOk a b then some (a * b) else none
  | .FloorDiv => if 0 < b ∧ b.natAbs.log2 < 9000 then some (a / b) else none
  | .Mod => if 0 < b then some (a % b) else none
  | .Pow => if powOk a b then some (a ^ b.toNat) else none
  | .LShift => if powOk a b then some (a * 2 ^ b.toNat) else none
  | .RShift => if 0 ≤ b then some (a / 2 ^ b.toNat) else none
  | .BitAnd => some (Builtin.bitAnd a b)
  | _ => none
def addO (x y : DV) : Option ER := match x, y with
  | .v (.str a), .v (.str b) => if a.length + b.length ≤ line then some (.v (.str (a ++ b))) else none
  | .v (.tup a), .v (.tup b) => if a.length + b.length ≤ line then some (.v (.tup (a ++ b))) else none
  | x, y => match x.lst, y.lst with
    | some a, some b => if a.length + b.length ≤ line then some (.own (.lst (a ++ b))) else none
    | _, _ => none
def mulO (x y : DV) : Option ER := match x, y with
  | .v (.tup a), .v (.int k) => if a ≠ [] ∧ 1 ≤ k ∧ k ≤ 1000 ∧ a.length ≤ 1000 then some (.v (.tup (List.replicate k.toNat a).flatten)) else none
  | x, .v (.int k) => match x.lst with
    | some a => if 0 ≤ k ∧ k ≤ 1000 ∧ a.length ≤ 1000 then some (.own (.lst (List.replicate k.toNat a).flatten)) else none
    | none => none
  | _, _ => none
def binO (op : Operator) (x y : DV) : Option ER := match x, y with
  | .v (.int a), .v (.int b) => (binI op a b).map fun i => .v (.int i)
  | x, y => match op with
    | .Add => addO x y
    | .Mult => mulO x y
    | _ => none
def intsOf : List PV → Option (List Int)
  | [] => some []
  | .int i :: r => (intsOf r).map (i :: ·)
  | _ => none
def eqO (x y : DV) : Option Bool := match x, y with
  | .v (.str a), .v (.str b) => some (a == b)
  | x, y => match x.pv, y.pv with
    | some p, some q => if p.fit && q.fit then some (p.eqv q) else none
    | _, _ => none
def ltI (op : CmpOp) (a b : Int) : Option Bool := match op with
  | .Lt => some (decide (a < b))
  | .LtE => some (decide (a ≤ b))
  | .Gt => some (decide (b < a))
  | .GtE => some (decide (b ≤ a))
  | _ => none
def isNone : DV → Bool
  | .v .non => true
  | _ => false
def isO (x y : DV) : Option Bool := match y with
  | .v .non => match x with
    | .bad => none
    | x => some (isNone x)
  | .v (.bl b) => match x with
    | .v (.bl a) => some (decide (a = b))
    | _ => none
  | _ => none
/-- a key of a dict: a number or a text, or (where the keys are tuples) a tuple of these -/
def flatKey : PV → Bool
  | .int _ => true
  | .str _ => true
  | _ => false
def keyOk (t : Bool) (p : PV) : Bool := if t then (match p with | .tup xs => xs.all flatKey | _ => false) else flatKey p
/-- equal keys: of keys (numbers, texts, tuples of these) this is equality -/
def keyEq : PV → PV → Bool
  | .int a, .int b => a == b
  | .str a, .str b => a == b
  | .tup xs, .tup ys => keysEq xs ys
  | _, _ => false
where keysEq : List PV → List PV → Bool
  | [], [] => true
  | .int a :: r, .int b :: t => a == b && keysEq r t
  | .str a :: r, .str b :: t => a == b && keysEq r t
  | _, _ => false
def dGet : List (PV × PV) → PV → Option PV
  | [], _ => none
  | (a, v) :: r, k => if keyEq a k then some v else dGet r k
def dHas (kvs : List (PV × PV)) (k : PV) : Bool := (dGet kvs k).isSome
def dPut (kvs : List (PV × PV)) (k v : PV) : List (PV × PV) :=
  if dHas kvs k then kvs.map (fun p => if keyEq p.1 k then (p.1, v) else p) else kvs ++ [(k, v)]
def inO (x y : DV) : Option Bool := match x.pv with
  | none => none
  | some p => match y with
    | .d (.dct t kvs) => if keyOk t p then some (dHas kvs p) else none
    | .v (.str z) => match p with
      | .str s => some (!(Builtin.Str.occurrences z s 0 z.length 1).isEmpty)
      | _ => none
    | .v (.tup xs) => if p.fit && (PV.tup xs).fit then some (xs.any fun q => q.eqv p) else none
    | y => match y.lst with
      | some xs => if p.fit && (PV.lst xs).fit then some (xs.any fun q => q.eqv p) else none
      | none => none
def cmpO (op : CmpOp) (x y : DV) : Option Bool := match op with
  | .Eq => eqO x y
  | .NotEq => (eqO x y).map (!·)
  | .Is => isO x y
  | .IsNot => (isO x y).map (!·)
  | .In => inO x y
  | .NotIn => (inO x y).map (!·)
  | op => match x, y with
    | .v (.int a), .v (.int b) => ltI op a b
    | .v (.tup xs), .v (.tup ys) => match op, intsOf xs, intsOf ys with
      | .Lt, some a, some b => some (HT.lexLt a b)
      | _, _, _ => none
    | _, _ => none
def truthy : DV → Option Bool
  | .v .non => some false
  | .v (.bl b) => some b
  | .v (.int i) => some (i != 0)
  | .v (.str x) => if x.length ≤ line then some ((x.length : Int) != 0) else none
  | .v (.tup xs) => some (!xs.isEmpty)
  | .v (.lst xs) => some (!xs.isEmpty)
  | .d (.lst xs) => some (!xs.isEmpty)
  | _ => none
/-! ### subscripts -/
def ixN (n : Nat) (i : Int) : Option Nat := if 0 ≤ i then (if i < n then some i.toNat else none) else if -(n : Int) ≤ i then some (i + n).toNat else none
def ixO (x y : DV) : Option PV := match x, y with
  | .d (.dct t kvs), y => match y.pv with
    | some k => if keyOk t k then dGet kvs k else none
    | none => none
  | .v (.str z), .v (.int i) => if z.length ≤ line then (ixN z.length i).bind fun j => (z.cps.toList[j]?).map fun c => .str ⟨#[c]⟩ else none
  | x, .v (.int i) => x.seq.bind fun xs => (ixN xs.length i).bind fun j => xs[j]?
  | _, _ => none
def cut {α : Type} (xs : List α) (lo hi : Option Int) : List α := (xs.drop (HT.sIx xs.length 0 lo)).take (HT.sIx xs.length xs.length hi - HT.sIx xs.length 0 lo)
def slO (x : DV) (lo hi : Option Int) : Option ER := match x with
  | .v (.str z) => if z.length ≤ line then some (.v (.str ⟨(cut z.cps.toList lo hi).toArray⟩)) else none
  | .v (.tup xs) => some (.v (.tup (cut xs lo hi)))
  | .v (.scr ns) => some (.own (.lst (cut (ns.map .int) lo hi)))
  | x => x.lst.map fun xs => .own (.lst (cut xs lo hi))
/-! ### built-in functions -/
def boolsOf : List PV → Option (List Bool)
  | [] => some []
  | .bl i :: r => (boolsOf r).map (i :: ·)
  | _ => none
def strsOf : List PV → Option (List Str)
  | [] => some []
  | .str i :: r => (strsOf r).map (i :: ·)
  | _ => none
def dedup : List Int → List Int
  | [] => []
  | x :: r => x :: (dedup r).filter (fun y => y != x)
/-- into an ascending list, once -/
def insI (x : Int) : List Int → List Int
  | [] => [x]
  | y :: r => if x < y then x :: y :: r else if x = y then y :: r else y :: insI x r
def sortI (l : List Int) : List Int := l.foldr insI []
def insT (x : List Int) : List (List Int) → List (List Int)
  | [] => [x]
  | y :: r => if HT.lexLt x y then x :: y :: r else if x = y then y :: r else y :: insT x r
def sortT (l : List (List Int)) : List (List Int) := l.foldr insT []
def tupsOf : List PV → Option (List (List Int))
  | [] => some []
  | .tup xs :: r => match intsOf xs, tupsOf r with
    | some a, some b => some (a :: b)
    | _, _ => none
  | _ => none
/-- the tuples that sorted(set(..)) takes: fewer than 64, of one length, of numbers from 0 below 64 -/
def tupsOk (ts : List (List Int)) : Bool := decide (ts.length < 64) && (match ts with
  | [] => true
  | t :: _ => decide (1 ≤ t.length) && ts.all fun u => decide (u.length = t.length) && u.all fun i => decide (0 ≤ i) && decide (i < 64))
def bltO (f : BF) (xs : List DV) : Option ER := match f, xs with
  | .len, [.v (.str x)] => if x.length ≤ line then some (.v (.int x.length)) else none
  | .len, [.d (.dct t kvs)] => if t then some (.v (.int kvs.length)) else none
  | .len, [x] => x.seq.map fun xs => .v (.int xs.length)
  | .int, [.v (.int i)] => some (.v (.int i))
  | .int, [.v (.bl b)] => some (.v (.int (if b then 1 else 0)))
  | .abs, [.v (.int i)] => some (.v (.int (if i < 0 then -i else i)))
  | .tuple, [x] => x.seq.map fun xs => .v (.tup xs)
  | .list, [x] => x.seq.map fun xs => .own (.lst xs)
  | .all, [x] => (x.lst.bind boolsOf).map fun bs => .v (.bl (bs.all id))
  | .repr, [x] => match x.pv with
    | some p => if p.fit && p.toD.showable && decide (p.toD.shown.length ≤ line) then some (.v (.str p.toD.shown)) else none
    | none => none
  | .str, [.v (.int i)] => if i.natAbs.log2 < 1920 then some (.v (.str (toString i))) else none
  | .bool, [.v (.bl b)] => some (.v (.bl b))
  | .bool, [.v (.int i)] => some (.v (.bl (i != 0)))
  | .max2, [.v (.int i), .v (.int j)] => some (.v (.int (if j > i then j else i)))
  | .min2, [.v (.int i), .v (.int j)] => some (.v (.int (if j < i then j else i)))
  | .sortedSet, [x] => x.lst.bind fun xs => match intsOf xs with
    | some ns => if ns.length < 64 then some (.own (.lst ((sortI ns).map .int))) else none
    | none => match tupsOf xs with
      | some ts => if tupsOk ts then some (.own (.lst ((sortT ts).map fun t => .tup (t.map .int)))) else none
      | none => none
  | .lenSet, [x] => x.lst.bind fun xs => (intsOf xs).bind fun ns => if ns.length < 64 then some (.v (.int (dedup ns).length)) else none
  | _, _ => none
def lens (ys : List Str) : Nat := (ys.map (·.length)).sum
def methO (m : MF) (o : DV) (xs : List DV) : Option ER := match m, o, xs with
  | .get1, .d (.dct t kvs), [k] => k.pv.bind fun k => if keyOk t k then some (.v ((dGet kvs k).getD .non)) else none
  | .get2, .d (.dct t kvs), [k, d] => k.pv.bind fun k => d.pv.bind fun d => if keyOk t k then some (.v ((dGet kvs k).getD d)) else none
  | .index, o, [x] => o.lst.bind fun xs => x.pv.bind fun p => if p.fit && (PV.lst xs).fit then (xs.findIdx? fun q => q.eqv p).map fun j => .v (.int j) else none
  | .join, .v (.str a), [x] => (x.lst.bind strsOf).bind fun ys => if lens ys + ys.length * a.length ≤ line then some (.v (.str (Txt.join a ys))) else none
  | .split, .v (.str a), [.v (.str b)] => if (b.length == 0) = false ∧ a.length + 2 ≤ line then some (.own (.lst ((Txt.split a b).map .str))) else none
  | .upper, .v (.str a), [] => if a.length ≤ 5592405 then some (.v (.str (Txt.upper a))) else none
  | _, _, _ => none
/-- a list changed: what comes out, the list behind it -/
def mutO (m : MM) (xs : List PV) (as : List PV) : Option (PV × List PV) := match m, as with
  | .append, [p] => if xs.length < line then some (.non, xs ++ [p]) else none
  | .extend, [.lst ys] => if xs.length + ys.length ≤ line then some (.non, xs ++ ys) else none
  | .pop, [] => xs.getLast?.map fun y => (y, xs.dropLast)
  | .popAt, [.int i] => (ixN xs.length i).bind fun k => (xs[k]?).map fun y => (y, xs.eraseIdx k)
  | .insert, [.int i, p] => if 0 ≤ i ∧ i < 9223372036854775808 ∧ xs.length < line then some (.non, xs.take i.toNat ++ [p] ++ xs.drop i.toNat) else none
  | .clear, [] => some (.non, [])
  | _, _ => none
def tyName : DV → Option String
  | .v .non => some "NoneType"
  | .v (.bl _) => some "bool"
  | .v (.int _) => some "int"
  | .v (.str _) => some "str"
  | .v (.tup _) => some "tuple"
  | .v (.lst _) => some "list"
  | .v (.scr _) => some "list"
  | .d (.lst _) => some "list"
  | _ => none
def isiO (x : DV) (c : CT) : Option Bool := match x, c with
  | .bad, _ => none
  | .v (.obj _), _ => none
  | .d (.dct _ _), _ => none
  | .v (.int _), .int => some true
  | .v (.bl _), .int => some true
  | .v (.bl _), .bool => some true
  | .v (.str _), .str => some true
  | .v (.tup _), .tuple => some true
  | .v (.lst _), .list => some true
  | .v (.scr _), .list => some true
  | .d (.lst _), .list => some true
  | _, _ => some false
def sayO : DV → Option Str
  | .v (.str x) => some x
  | .v (.int i) => if i.natAbs.log2 < 1920 then some (toString i) else none
  | _ => none
end Q
end
section
namespace Q
open PySem
/-! ### what it does -/
inductive COut where
  | ret (r : SV) (args : List SV) (g : List GI) | exc (x : XV) (args : List SV) (g : List GI) | bad
structure Ctx where
  call : Str → List SV → List GI → COut
  np : Nat
  re : List Nat
  fuel : Nat
/-- a parameter that is never stored anew: what stands there is the caller's -/
def Ctx.ro (C : Ctx) (i : Nat) : Bool := decide (i < C.np) && !C.re.contains i
def noExc {α : Type} : Out α → Out α
  | .exc _ _ => .bad
  | o => o
@[simp] theorem noExc_ok {α : Type} (a : α) (st : ST) : noExc (.ok a st) = .ok a st := rfl
@[simp] theorem noExc_bad {α : Type} : noExc (.bad : Out α) = .bad := rfl
def wipeS (st : ST) (ws : List Nat) : ST := { st with env := wipeE st.env ws }
def putAll : ST → List Nat → List PV → Option ST
  | st, [], [] => some st
  | st, i :: is, x :: xs => putAll (st.put i (some (.v x))) is xs
  | _, _, _ => none
def roAny (C : Ctx) (is : List Nat) : Bool := is.any C.ro
def stTg (C : Ctx) (t : Tg) (x : PV) (st : ST) : Option ST := match t with
  | .v i => if C.ro i then none else some (st.put i (some (.v x)))
  | .t is => if roAny C is then none else match x with
    | .tup xs => putAll st is xs
    | _ => none
def store (C : Ctx) (i : Nat) (e : ER) (st : ST) : Option ST := if C.ro i then none else match e with
  | .v p => some (st.put i (some (.v p)))
  | .own d => some (st.put i (some (.own d)))
  | .slot j => match ER.frz st (.slot j) with
    | some (p, st') => some (st'.put i (some (.v p)))
    | none => none
/-- all to values, but new lists stay lists -/
def frzSl : List ER → ST → Option (List ER × ST)
  | [], st => some ([], st)
  | .slot i :: r, st => match ER.frz st (.slot i) with
    | some (p, st') => match frzSl r st' with
      | some (es, st'') => some (.v p :: es, st'')
      | none => none
    | none => none
  | e :: r, st => match frzSl r st with
    | some (es, st'') => some (e :: es, st'')
    | none => none
def frzL : List ER → ST → Option (List PV × ST)
  | [], st => some ([], st)
  | e :: r, st => match e.frz st with
    | some (p, st') => match frzL r st' with
      | some (ps, st'') => some (p :: ps, st'')
      | none => none
    | none => none
def storeAll (C : Ctx) : List Nat → List ER → ST → Option ST
  | [], [], st => some st
  | i :: is, e :: es, st => match store C i e st with
    | some st' => storeAll C is es st'
    | none => none
  | _, _, _ => none
/-! calls -/
def ER.sv (st : ST) : ER → Option SV
  | .v p => some (.v p)
  | .own d => some (.own d)
  | .slot i => envAt st i
def svAll (st : ST) : List ER → Option (List SV)
  | [] => some []
  | e :: r => match e.sv st, svAll st r with
    | some a, some b => some (a :: b)
    | _, _ => none
def slotsOf : List ER → List Nat
  | [] => []
  | .slot i :: r => i :: slotsOf r
  | _ :: r => slotsOf r
def back : List ER → List SV → ST → ST
  | .slot i :: r, a :: as, st => back r as (st.put i (some a))
  | _ :: r, _ :: as, st => back r as st
  | _, _, st => st
def SV.er : SV → ER
  | .v p => .v p
  | .own d => .own d
def callO (C : Ctx) (f : Str) (es : List ER) (st : ST) : Out ER := match svAll st es with
  | none => .bad
  | some as => if (slotsOf es).Nodup then (match C.call f as st.g with
      | .ret r as' g => .ok r.er (back es as' { st with g := g })
      | .exc x as' g => .exc x (back es as' { st with g := g })
      | .bad => .bad) else .bad
def pickA (es : List ER) : List CA → Option (List ER)
  | [] => some []
  | .a i :: r => match es[i]?, pickA es r with
    | some e, some b => some (e :: b)
    | _, _ => none
  | .d p :: r => (pickA es r).map (.v p :: ·)
def pickIx : List CA → List Nat
  | [] => []
  | .a i :: r => i :: pickIx r
  | .d _ :: r => pickIx r
/-! loops -/
def mapO (f : PV → ST → Out (List PV)) : List PV → ST → Out (List PV)
  | [], st => .ok [] st
  | x :: r, st => (f x st).bind fun a st => (mapO f r st).bind fun b st => .ok (a ++ b) st
def ranged (lo : Int) (n : Nat) : List PV := (List.range n).map fun (i : Nat) => .int (lo + i)
def ranged' (hi : Int) (n : Nat) : List PV := (List.range n).map fun (i : Nat) => .int (hi - i)
def big : Int := 4611686018427387904
def itemsOf : PV → Option (List PV)
  | .tup xs => some xs
  | .lst xs => some xs
  | .scr ns => some (ns.map .int)
  | .str z => some (z.cps.toList.map fun c => .str ⟨#[c]⟩)
  | _ => none
def rngO : DV → Option (List PV)
  | .v (.int n) => if -big ≤ n ∧ n ≤ line then some (ranged 0 n.toNat) else none
  | _ => none
def rngO2 : DV → DV → Option (List PV)
  | .v (.int a), .v (.int b) => if -big ≤ a ∧ a < big ∧ -big ≤ b ∧ b < big ∧ b - a ≤ line then some (ranged a (b - a).toNat) else none
  | _, _ => none
def rngO3 : DV → DV → DV → Option (List PV)
  | .v (.int a), .v (.int b), .v (.int c) => if c = -1 ∧ -big ≤ a ∧ a < big ∧ -big ≤ b ∧ b < big ∧ a - b ≤ line then some (ranged' a (a - b).toNat) else none
  | _, _, _ => none
def revO : DV → Option (List PV)
  | .v (.int n) => if -big ≤ n ∧ n ≤ line then some (ranged' (n.toNat - 1) n.toNat) else none
  | _ => none
def lift {α : Type} (o : Option α) (st : ST) : Out α := match o with
  | some a => .ok a st
  | none => .bad
@[simp] theorem lift_some {α : Type} (a : α) (st : ST) : lift (some a) st = .ok a st := rfl
@[simp] theorem lift_none {α : Type} (st : ST) : lift (none : Option α) st = .bad := rfl
def dcPut (t : Bool) (kvs : List (PV × PV)) (k v : PV) : Option (List (PV × PV)) := if keyOk t k && decide (kvs.length < line) then some (dPut kvs k v) else none
def foldO (f : PV → List (PV × PV) → ST → Out (List (PV × PV))) : List PV → List (PV × PV) → ST → Out (List (PV × PV))
  | [], kvs, st => .ok kvs st
  | x :: r, kvs, st => (f x kvs st).bind fun kvs st => foldO f r kvs st
def sayAll (st : ST) : List ER → Option Str
  | [] => some ⟨#[]⟩
  | e :: r => match sayO (e.get st), sayAll st r with
    | some a, some b => some (a ++ b)
    | _, _ => none
def asBool : ER → ST → Option Bool := fun e st => match e.get st with
  | .v (.bl b) => some b
  | _ => none
def putTo (t : Tg) (x : PV) (st : ST) : Option ST := match t with
  | .v i => some (st.put i (some (.v x)))
  | .t is => match x with
    | .tup xs => putAll st is xs
    | _ => none
def recvOk (m : MF) (x : DV) : Bool := match m, x with
  | .get1, .d (.dct _ _) => true
  | .get2, .d (.dct _ _) => true
  | .index, x => x.lst.isSome
  | .join, .v (.str _) => true
  | .split, .v (.str _) => true
  | .upper, .v (.str _) => true
  | _, _ => false
def ownsL (st : ST) (i : Nat) : Bool := match envAt st i with
  | some (.own (.lst _)) => true
  | _ => false
/-- a turn of a comprehension -/
def lcF (tg : Tg) (ws : List Nat) (t : ST → Out Bool) (k : ST → Out (List PV)) (x : PV) (st : ST) : Out (List PV) := match putTo tg x (wipeS st ws) with
  | some st => (t st).bind fun b st => if b then (k st).bind fun ps st => .ok ps (wipeS st ws) else .ok [] (wipeS st ws)
  | none => .bad
mutual
def ev (C : Ctx) : E → ST → Out ER
  | .c p, st => .ok (.v p) st
  | .gc _ p, st => .ok (.v p) st
  | .var i, st => match envAt st i with
    | some (.v p) => .ok (.v p) st
    | some (.own _) => .ok (.slot i) st
    | none => .bad
  | .bin op a b, st => (ev C a st).bind fun x st => (ev C b st).bind fun y st => lift (binO op (x.get st) (y.get st)) st
  | .neg a, st => (ev C a st).bind fun x st => match x.get st with
    | .v (.int i) => .ok (.v (.int (-i))) st
    | _ => .bad
  | .not a, st => (ev C a st).bind fun x st => (lift (truthy (x.get st)) st).bind fun b st => .ok (.v (.bl (!b))) st
  | .and a b, st => (ev C a st).bind fun x st => match asBool x st with
    | some true => ev C b st
    | some false => .ok (.v (.bl false)) st
    | none => .bad
  | .or a b, st => (ev C a st).bind fun x st => match asBool x st with
    | some true => .ok (.v (.bl true)) st
    | some false => ev C b st
    | none => .bad
  | .cmp op a b, st => (ev C a st).bind fun x st => (ev C b st).bind fun y st => (lift (cmpO op (x.get st) (y.get st)) st).bind fun r st => .ok (.v (.bl r)) st
  | .chain o1 o2 a b d, st => (ev C a st).bind fun x st => (ev C b st).bind fun y st => (lift (cmpO o1 (x.get st) (y.get st)) st).bind fun r st =>
      if r then (ev C d st).bind fun z st => (lift (cmpO o2 (y.get st) (z.get st)) st).bind fun r st => .ok (.v (.bl r)) st else .ok (.v (.bl false)) st
  | .ifx t a b, st => (tst C t st).bind fun r st => if r then ev C a st else ev C b st
  | .tup es, st => (evL C es st).bind fun xs st => match frzL xs st with
    | some (ps, st) => if ps.length ≤ line then .ok (.v (.tup ps)) st else .bad
    | none => .bad
  | .lst es, st => (evL C es st).bind fun xs st => match frzL xs st with
    | some (ps, st) => if ps.length ≤ line then .ok (.own (.lst ps)) st else .bad
    | none => .bad
  | .dnew t, st => .ok (.own (.dct t [])) st
  | .idx a b, st => (ev C a st).bind fun x st => (ev C b st).bind fun y st => (lift (ixO (x.get st) (y.get st)) st).bind fun p st => .ok (.v p) st
  | .sl a lo hi, st => (ev C a st).bind fun x st => (evO C lo st).bind fun l st => (evO C hi st).bind fun h st => lift (slO (x.get st) l h) st
  | .call f as, st => (evL C as st).bind fun xs st => callO C f xs st
  | .callp f ps as ks, st => (evL C as st).bind fun xs st => (evL C ks st).bind fun ys st => match pickA (xs ++ ys) ps with
    | some zs => if (pickIx ps).Nodup then callO C f zs st else .bad
    | none => .bad
  | .blt f as, st => (evL C as st).bind fun xs st => lift (bltO f (xs.map (ER.get st))) st
  | .meth m o as, st => (ev C o st).bind fun x st => if recvOk m (x.get st) then (evL C as st).bind fun xs st => lift (methO m (x.get st) (xs.map (ER.get st))) st else .bad
  | .mut m i as, st => if ownsL st i then (evL C as st).bind fun xs st => match frzL xs st with
    | some (ps, st) => match envAt st i with
      | some (.own (.lst xs)) => match mutO m xs ps with
        | some (r, xs') => .ok (.v r) (st.put i (some (.own (.lst xs'))))
        | none => .bad
      | _ => .bad
    | none => .bad else .bad
  | .lc ws tg it cond elt, st => (evI C it st).bind fun xs st =>
      (noExc (mapO (lcF tg ws (fun st => tst C cond st) (fun st => frzO (ev C elt st) fun p st => .ok [p] st)) xs st)).bind fun ps st => if ps.length ≤ line then .ok (.own (.lst ps)) st else .bad
  | .lc2 ws ws1 tg it cond tg1 it1 cond1 elt, st => (evI C it st).bind fun xs st =>
      (noExc (mapO (lcF tg ws (fun st => tst C cond st) (fun st => (evI C it1 st).bind fun ys st =>
        mapO (lcF tg1 ws1 (fun st => tst C cond1 st) (fun st => frzO (ev C elt st) fun p st => .ok [p] st)) ys st)) xs st)).bind fun ps st => if ps.length ≤ line then .ok (.own (.lst ps)) st else .bad
  | .dc ws tg it k v, st => (evI C it st).bind fun xs st =>
      (noExc (foldO (fun x kvs st => match putTo tg x (wipeS st ws) with
        | some st => frzO (ev C k st) fun p st => frzO (ev C v st) fun q st => (lift (dcPut false kvs p q) st).bind fun kvs st => .ok kvs (wipeS st ws)
        | none => .bad) xs [] st)).bind fun kvs st => .ok (.own (.dct false kvs)) st
  | .isi a cls, st => (ev C a st).bind fun x st => (lift (isiO (x.get st) cls) st).bind fun b st => .ok (.v (.bl b)) st
  | .fstr es, st => (evL C es st).bind fun xs st => match sayAll st xs with
    | some z => if z.length ≤ 4096 then .ok (.v (.str z)) st else .bad
    | none => .bad
  | .bad, _ => .bad
def evO (C : Ctx) : OE → ST → Out (Option Int)
  | .no, st => .ok none st
  | .yes e, st => (ev C e st).bind fun x st => match x.get st with
    | .v (.int i) => .ok (some i) st
    | _ => .bad
def evL (C : Ctx) : EL → ST → Out (List ER)
  | .nil, st => .ok [] st
  | .cons e r, st => (ev C e st).bind fun x st => (evL C r st).bind fun xs st => .ok (x :: xs) st
def evI (C : Ctx) : IT → ST → Out (List PV)
  | .seq a, st => frzO (ev C a st) fun p st => lift (itemsOf p) st
  | .rng1 a, st => (ev C a st).bind fun x st => lift (rngO (x.get st)) st
  | .rng2 a b, st => (ev C a st).bind fun x st => (ev C b st).bind fun y st => lift (rngO2 (x.get st) (y.get st)) st
  | .rng3 a b c, st => (ev C a st).bind fun x st => (ev C b st).bind fun y st => (ev C c st).bind fun z st => lift (rngO3 (x.get st) (y.get st) (z.get st)) st
  | .rev1 a, st => (ev C a st).bind fun x st => lift (revO (x.get st)) st
def tst (C : Ctx) : T → ST → Out Bool
  | .tt, st => .ok true st
  | .and a b, st => (tst C a st).bind fun r st => if r then tst C b st else .ok false st
  | .or a b, st => (tst C a st).bind fun r st => if r then .ok true st else tst C b st
  | .not a, st => (tst C a st).bind fun r st => .ok (!r) st
  | .e a, st => (ev C a st).bind fun x st => lift (truthy (x.get st)) st
end
end Q
end
section
namespace Q
open PySem
/-! ### statements, functions -/
inductive SO where
  | nx (st : ST) | ret (r : ER) (st : ST) | bk (st : ST) | ct (st : ST) | exc (x : XV) (st : ST) | bad
def Out.so {α : Type} (o : Out α) (f : α → ST → SO) : SO := match o with
  | .ok a st => f a st
  | .exc x st => .exc x st
  | .bad => .bad
@[simp] theorem so_ok {α : Type} (a : α) (st : ST) (f : α → ST → SO) : (Out.ok a st).so f = f a st := rfl
@[simp] theorem so_exc {α : Type} (x : XV) (st : ST) (f : α → ST → SO) : (Out.exc x st : Out α).so f = .exc x st := rfl
@[simp] theorem so_bad {α : Type} (f : α → ST → SO) : (Out.bad : Out α).so f = .bad := rfl
def SO.seq (o : SO) (f : ST → SO) : SO := match o with
  | .nx st => f st
  | o => o
@[simp] theorem seq_nx (st : ST) (f : ST → SO) : (SO.nx st).seq f = f st := rfl
@[simp] theorem seq_ret (r : ER) (st : ST) (f : ST → SO) : (SO.ret r st).seq f = .ret r st := rfl
@[simp] theorem seq_bk (st : ST) (f : ST → SO) : (SO.bk st).seq f = .bk st := rfl
@[simp] theorem seq_ct (st : ST) (f : ST → SO) : (SO.ct st).seq f = .ct st := rfl
@[simp] theorem seq_exc (x : XV) (st : ST) (f : ST → SO) : (SO.exc x st).seq f = .exc x st := rfl
@[simp] theorem seq_bad (f : ST → SO) : SO.bad.seq f = .bad := rfl
def nxO : Option ST → SO
  | some st => .nx st
  | none => .bad
@[simp] theorem nxO_some (st : ST) : nxO (some st) = .nx st := rfl
@[simp] theorem nxO_none : nxO none = .bad := rfl
/-- behind a turn of a loop -/
def SO.turn (o : SO) (f : ST → SO) : SO := match o with
  | .nx st => f st
  | .ct st => f st
  | .bk st => .nx st
  | o => o
@[simp] theorem turn_nx (st : ST) (f : ST → SO) : (SO.nx st).turn f = f st := rfl
@[simp] theorem turn_ct (st : ST) (f : ST → SO) : (SO.ct st).turn f = f st := rfl
@[simp] theorem turn_bk (st : ST) (f : ST → SO) : (SO.bk st).turn f = .nx st := rfl
@[simp] theorem turn_ret (r : ER) (st : ST) (f : ST → SO) : (SO.ret r st).turn f = .ret r st := rfl
@[simp] theorem turn_exc (x : XV) (st : ST) (f : ST → SO) : (SO.exc x st).turn f = .exc x st := rfl
@[simp] theorem turn_bad (f : ST → SO) : SO.bad.turn f = .bad := rfl
def forO (h : PV → ST → SO) : List PV → ST → SO
  | [], st => .nx st
  | x :: r, st => (h x st).turn fun st => forO h r st
def whlO (c : ST → Out Bool) (b : ST → SO) : Nat → ST → SO
  | 0, _ => .bad
  | n + 1, st => (c st).so fun r st => if r then (b st).turn fun st => whlO c b n st else .nx st
def isFlat : DV → Bool
  | .v (.int _) => true
  | .v (.str _) => true
  | _ => false
def subO (C : Ctx) (i : Nat) (k p : PV) (st : ST) : Option ST := match envAt st i with
  | some (.own (.lst xs)) => match k with
    | .int n => (ixN xs.length n).map fun j => st.put i (some (.own (.lst (xs.set j p))))
    | _ => none
  | some (.own (.dct t kvs)) => if keyOk t k && decide (kvs.length < line) then some (st.put i (some (.own (.dct t (dPut kvs k p))))) else none
  | _ => none
def ownsD (st : ST) (i : Nat) : Bool := match envAt st i with
  | some (.own _) => true
  | _ => false
mutual
def ex (C : Ctx) : S → ST → SO
  | .asg t e, st => match t with
    | .v i => (ev C e st).so fun x st => nxO (store C i x st)
    | .t is => (frzO (ev C e st) fun p st => lift (stTg C (.t is) p st) st).so fun st' _ => .nx st'
  | .par is es, st => (evL C es st).so fun xs st => match frzSl xs st with
    | some (ys, st) => nxO (storeAll C is ys st)
    | none => .bad
  | .aug i op e, st => match envAt st i with
    | some (.v (.int a)) => (ev C e st).so fun x st => if C.ro i then .bad else match op, x.get st with
      | .Add, .v (.int b) => .nx (st.put i (some (.v (.int (a + b)))))
      | _, _ => .bad
    | _ => .bad
  | .sub i k e, st => if ownsD st i then (frzO (ev C e st) fun p st => frzO (ev C k st) fun k st => lift (subO C i k p st) st).so fun st' _ => .nx st' else .bad
  | .ex e, st => (ev C e st).so fun _ st => .nx st
  | .ife t a b, st => (tst C t st).so fun r st => if r then exs C a st else exs C b st
  | .for_ t it b, st => (evI C it st).so fun xs st => forO (fun x st => (nxO (stTg C t x st)).seq fun st => exs C b st) xs st
  | .whl t b, st => whlO (fun st => tst C t st) (fun st => exs C b st) C.fuel st
  | .ret e, st => (ev C e st).so fun x st => .ret x st
  | .retn, st => .ret (.v .non) st
  | .brk, st => .bk st
  | .cnt, st => .ct st
  | .pass, st => .nx st
  | .raise cls m, st => .exc ⟨cls, none⟩ st
  | .bad, _ => .bad
def exs (C : Ctx) : SL → ST → SO
  | .nil, st => .nx st
  | .cons s r, st => (ex C s st).seq fun st => exs C r st
end
/-- arguments of parameters that are stored anew are values -/
def frzArg : SV → Option SV
  | .v p => some (.v p)
  | .own (.lst xs) => some (.v (.lst xs))
  | _ => none
def frzArgs (re : List Nat) : Nat → List SV → Option (List SV)
  | _, [] => some []
  | i, a :: r => match (if re.contains i then frzArg a else some a), frzArgs re (i + 1) r with
    | some b, some c => some (b :: c)
    | _, _ => none
/-- a list that was handed over comes back, changed or as a value -/
def okBack : SV → SV → Bool
  | .own _, .own _ => true
  | .own _, .v (.lst _) => true
  | .v _, .v _ => true
  | _, _ => false
/-- what the caller finds in its own behind the call -/
def finals (re : List Nat) (e : Env) : Nat → List SV → Option (List SV)
  | _, [] => some []
  | i, a :: r => match (if re.contains i then some a else ((e[i]?).join).bind fun b => if okBack a b then some b else none), finals re e (i + 1) r with
    | some b, some c => some (b :: c)
    | _, _ => none
def retO (f : Fn) (as : List SV) (r : ER) (st : ST) : COut :=
  let go (r : SV) (st : ST) : COut := match finals f.re st.env 0 as with
    | some bs => .ret r bs st.g
    | none => .bad
  match r with
  | .v p => go (.v p) st
  | .own d => go (.own d) st
  | .slot i => if i < f.np && !f.re.contains i then (match ER.frz st (.slot i) with
      | some (p, st') => go (.v p) st'
      | none => .bad) else match envAt st i with
    | some a => go a st
    | none => .bad
abbrev Tbl := Str → Option Fn
def whileFuel : Nat := 1000000
def callN (T : Tbl) : Nat → Str → List SV → List GI → COut
  | 0, _, _, _ => .bad
  | n + 1, f, as, g => match T f with
    | none => .bad
    | some fn => if as.length = fn.np then (match frzArgs fn.re 0 as with
      | none => .bad
      | some bs => match exs ⟨callN T n, fn.np, fn.re, whileFuel⟩ fn.body ⟨bs.map some ++ List.replicate (fn.n - fn.np) none, g⟩ with
        | .nx st => retO fn bs (.v .non) st
        | .ret r st => retO fn bs r st
        | .exc x st => (match finals fn.re st.env 0 bs with | some cs => .exc x cs st.g | none => .bad)
        | _ => .bad) else .bad
end Q
end
section
namespace Q
open PySem L2
/-- the instances' addresses; lists that are being made -/
structure Gm where
  obj : List Addr
  lock : List Addr
def Gm.has (γ : Gm) (a : Addr) : Prop := a ∈ γ.obj ∨ a ∈ γ.lock
/-! ### how the values stand in the heap -/
/-- a list of the written part -/
def KSq (K : PySem.W.Frag) (a : Addr) (xs : List V) : Prop := ∃ (o : Obj) (its : Array Value) (n : Nat), K.lookup a = some o ∧ o.cls = .type "list" ∧ o.dict = none ∧ o.data = .seq its n ∧ its.size ≤ sizeLine ∧ Vals xs its.toList
mutual
inductive Rep (K : PySem.W.Frag) (H : Hp) (Mu : Addr → Prop) (γ : Gm) : V → PV → Prop
  | non : Rep K H Mu γ .non .non
  | bl (b : Bool) : Rep K H Mu γ (.bl b) (.bl b)
  | int (i : Int) : Rep K H Mu γ (.int i) (.int i)
  | str (x : Str) : Rep K H Mu γ (.str x) (.str x)
  | tup {a : Addr} {vs : List V} {xs : List PV} : H a = some (.tup vs) → ¬ Mu a → Reps K H Mu γ vs xs → Rep K H Mu γ (.ref a) (.tup xs)
  | lst {a : Addr} {vs : List V} {xs : List PV} : H a = some (.lst vs) → ¬ Mu a → Reps K H Mu γ vs xs → Rep K H Mu γ (.ref a) (.lst xs)
  | scr {a : Addr} {ns : List Int} : (Rd H a (.lst (ns.map V.int)) ∧ ¬ Mu a) ∨ KSq K a (ns.map V.int) → Rep K H Mu γ (.ref a) (.scr ns)
  | obj {a : Addr} {n : Nat} : γ.obj[n]? = some a → Rep K H Mu γ (.ref a) (.obj n)
inductive Reps (K : PySem.W.Frag) (H : Hp) (Mu : Addr → Prop) (γ : Gm) : List V → List PV → Prop
  | nil : Reps K H Mu γ [] []
  | cons {v : V} {vs : List V} {x : PV} {xs : List PV} : Rep K H Mu γ v x → Reps K H Mu γ vs xs → Reps K H Mu γ (v :: vs) (x :: xs)
end
def KeyR : Key → PV → Prop
  | .inl i, .int j => i = j
  | .inr x, .str y => x = y
  | _, _ => False
abbrev KeyRs : List Key → List PV → Prop := Paired KeyR
def KTup (k : List Key) (p : PV) : Prop := ∃ xs, p = .tup xs ∧ KeyRs k xs
/-- an object that a slot owns, at a -/
def OwnR (K : PySem.W.Frag) (H : Hp) (Mu : Addr → Prop) (γ : Gm) (a : Addr) : LD → Prop
  | .lst xs => ∃ vs, H a = some (.lst vs) ∧ Reps K H Mu γ vs xs
  | .dct false kvs => ∃ ks : List (Key × V), H a = some (.dK ks) ∧ Paired (fun k p => KeyR k.1 p.1 ∧ Rep K H Mu γ k.2 p.2) ks kvs
  | .dct true kvs => ∃ ks : List (List Key × V), H a = some (.dT ks) ∧ Paired (fun k p => KTup k.1 p.1 ∧ Rep K H Mu γ k.2 p.2) ks kvs
def SvR (K : PySem.W.Frag) (H : Hp) (Mu : Addr → Prop) (γ : Gm) (v : V) : SV → Prop
  | .v p => Rep K H Mu γ v p
  | .own d => ∃ a, v = .ref a ∧ OwnR K H Mu γ a d
/-- what may be changed: the objects that the slots own, the instances -/
def Mu (γ : Gm) (σ : L2.St) (st : ST) (a : Addr) : Prop := γ.has a ∨ ∃ i d, envAt st i = some (.own d) ∧ σ[i]? = some (some (.ref a))
structure Sim (K : PySem.W.Frag) (H : Hp) (γ : Gm) (σ : L2.St) (st : ST) : Prop where
  len : st.env.length = σ.length
  sv : ∀ (i : Nat) (s : SV), envAt st i = some s → ∃ v, σ[i]? = some (some v) ∧ SvR K H (Mu γ σ st) γ v s
  inj : ∀ (i j : Nat) (d d' : LD) (a : Addr), envAt st i = some (.own d) → envAt st j = some (.own d') → σ[i]? = some (some (.ref a)) → σ[j]? = some (some (.ref a)) → i = j
  gl : ∀ a, γ.has a → ∃ o, H a = some o
  sep : ∀ (i : Nat) (d : LD) (a : Addr), envAt st i = some (.own d) → σ[i]? = some (some (.ref a)) → ¬ γ.has a
  g0 : γ.obj = [] ∧ st.g = []
structure Tr (H : Hp) (M : Addr → Prop) (γ : Gm) (H' : Hp) (M' : Addr → Prop) (γ' : Gm) : Prop where
  keep : ∀ a o, H a = some o → (¬ M a ∨ a ∈ γ.lock) → H' a = some o
  lock : ∀ a, a ∈ γ.lock → a ∈ γ'.lock
  dom : ∀ a, H' a = none → H a = none
  mu : ∀ a, M' a → M a ∨ H a = none
  gam : ∃ e, γ'.obj = γ.obj ++ e
def ErR (K : PySem.W.Frag) (H0 H : Hp) (γ : Gm) (σ : L2.St) (st : ST) (v : V) : ER → Prop
  | .v p => Rep K H (Mu γ σ st) γ v p
  | .own d => ∃ a, v = .ref a ∧ H0 a = none ∧ a ∈ γ.lock ∧ OwnR K H (Mu γ σ st) γ a d
  | .slot i => σ[i]? = some (some v)
def DvR (K : PySem.W.Frag) (H : Hp) (M : Addr → Prop) (γ : Gm) (v : V) : DV → Prop
  | .v p => Rep K H M γ v p
  | .d l => ∃ a, v = .ref a ∧ OwnR K H M γ a l
  | .bad => True

theorem Tr.refl {H : Hp} {M : Addr → Prop} {γ : Gm} : Tr H M γ H M γ := ⟨fun _ _ h _ => h, fun _ h => h, fun _ h => h, fun _ h => .inl h, ⟨[], by simp⟩⟩
theorem Tr.trans {H H1 H2 : Hp} {M M1 M2 : Addr → Prop} {γ γ1 γ2 : Gm} (a : Tr H M γ H1 M1 γ1) (b : Tr H1 M1 γ1 H2 M2 γ2) : Tr H M γ H2 M2 γ2 := by
  refine ⟨fun x o h n => b.keep x o (a.keep x o h n) ?_, fun x h => b.lock x (a.lock x h), fun x h => a.dom x (b.dom x h), fun x m => ?_, ?_⟩
  · rcases n with n | n
    · refine .inl fun m => ?_
      rcases a.mu x m with z | z
      · exact n z
      · rw [h] at z; cases z
    · exact .inr (a.lock x n)
  · rcases b.mu x m with z | z
    · exact a.mu x z
    · exact .inr (a.dom x z)
  · obtain ⟨e, h⟩ := a.gam
    obtain ⟨e', h'⟩ := b.gam
    exact ⟨e ++ e', by rw [h', h, List.append_assoc]⟩
section
variable {K : PySem.W.Frag} {H H' : Hp} {M M' : Addr → Prop} {γ γ' : Gm}
theorem Tr.not (t : Tr H M γ H' M' γ') {a : Addr} {o : HO} (h : H a = some o) (n : ¬ M a) : ¬ M' a := fun m => by
  rcases t.mu a m with z | z
  · exact n z
  · rw [h] at z; cases z
theorem Tr.rd (t : Tr H M γ H' M' γ') {a : Addr} {o : HO} (h : Rd H a o) (n : ¬ M a) : Rd H' a o ∧ ¬ M' a := by
  rcases h with h | ⟨u, h⟩
  · exact ⟨.inl (t.keep _ _ h (.inl n)), t.not h n⟩
  · exact ⟨.inr ⟨u, t.keep _ _ h (.inl n)⟩, t.not h n⟩
mutual
theorem Rep.tr (t : Tr H M γ H' M' γ') : ∀ {p : PV} {v : V}, Rep K H M γ v p → Rep K H' M' γ' v p
  | .non, _, h => by cases h; exact .non
  | .bl b, _, h => by cases h; exact .bl b
  | .int b, _, h => by cases h; exact .int b
  | .str b, _, h => by cases h; exact .str b
  | .tup xs, _, h => by
    cases h with
    | tup h n r => exact .tup (t.keep _ _ h (.inl n)) (t.not h n) (Reps.tr t r)
  | .lst xs, _, h => by
    cases h with
    | lst h n r => exact .lst (t.keep _ _ h (.inl n)) (t.not h n) (Reps.tr t r)
  | .scr ns, _, h => by
    cases h with
    | scr h =>
      rcases h with ⟨h, n⟩ | h
      · exact .scr (.inl (t.rd h n))
      · exact .scr (.inr h)
  | .obj n, _, h => by
    cases h with
    | obj h =>
      obtain ⟨e, he⟩ := t.gam
      refine .obj ?_
      rw [he, List.getElem?_append_left (List.getElem?_eq_some_iff.mp h).1]
      exact h
theorem Reps.tr (t : Tr H M γ H' M' γ') : ∀ {xs : List PV} {vs : List V}, Reps K H M γ vs xs → Reps K H' M' γ' vs xs
  | [], _, h => by cases h; exact .nil
  | x :: xs, _, h => by
    cases h with
    | cons a b => exact .cons (Rep.tr t a) (Reps.tr t b)
end
theorem Reps.len : ∀ {xs : List PV} {vs : List V}, Reps K H M γ vs xs → vs.length = xs.length
  | _, _, .nil => rfl
  | _, _, .cons _ r => by rw [List.length_cons, List.length_cons, Reps.len r]
theorem Reps.get : ∀ {xs : List PV} {vs : List V} {i : Nat} {x : PV}, Reps K H M γ vs xs → xs[i]? = some x → ∃ v, vs[i]? = some v ∧ Rep K H M γ v x
  | _, _, _, _, .nil, e => by simp at e
  | _, _, 0, _, .cons r _, e => by simp at e; subst e; exact ⟨_, rfl, r⟩
  | _, _, i + 1, x, .cons _ t, e => by
    obtain ⟨u, h1, h2⟩ := Reps.get (i := i) (x := x) t (by simpa using e)
    exact ⟨u, by simpa using h1, h2⟩
theorem Reps.app : ∀ {xs ys : List PV} {vs ws : List V}, Reps K H M γ vs xs → Reps K H M γ ws ys → Reps K H M γ (vs ++ ws) (xs ++ ys)
  | _, _, _, _, .nil, s => s
  | _, _, _, _, .cons r t, s => .cons r (Reps.app t s)
theorem Reps.take : ∀ {xs : List PV} {vs : List V} (n : Nat), Reps K H M γ vs xs → Reps K H M γ (vs.take n) (xs.take n)
  | _, _, 0, _ => .nil
  | _, _, _ + 1, .nil => .nil
  | _, _, n + 1, .cons r t => .cons r (Reps.take n t)
theorem Reps.drop : ∀ {xs : List PV} {vs : List V} (n : Nat), Reps K H M γ vs xs → Reps K H M γ (vs.drop n) (xs.drop n)
  | _, _, 0, r => r
  | _, _, _ + 1, .nil => .nil
  | _, _, n + 1, .cons _ t => Reps.drop n t
theorem Reps.set {v : V} {x : PV} (r : Rep K H M γ v x) : ∀ {xs : List PV} {vs : List V} (i : Nat), Reps K H M γ vs xs → Reps K H M γ (vs.set i v) (xs.set i x)
  | _, _, _, .nil => .nil
  | _, _, 0, .cons _ t => .cons r t
  | _, _, i + 1, .cons q t => .cons q (Reps.set r i t)
theorem Reps.ints : ∀ (ns : List Int), Reps K H M γ (ns.map V.int) (ns.map PV.int)
  | [] => .nil
  | n :: r => .cons (.int n) (Reps.ints r)
theorem Reps.strs : ∀ (ns : List Str), Reps K H M γ (ns.map V.str) (ns.map PV.str)
  | [] => .nil
  | n :: r => .cons (.str n) (Reps.strs r)
theorem Paired.imp2 {α β : Type} {F G : α → β → Prop} : ∀ {l₁ : List α} {l₂ : List β}, Paired F l₁ l₂ → (∀ a b, F a b → G a b) → Paired G l₁ l₂
  | _, _, .nil, _ => .nil
  | _, _, .cons r t, f => .cons (f _ _ r) (Paired.imp2 t f)
/-- an owned object whose own address is kept -/
theorem OwnR.tr' (t : Tr H M γ H' M' γ') {a : Addr} {d : LD} (h : OwnR K H M γ a d) (hk : ∀ o, H a = some o → H' a = some o) : OwnR K H' M' γ' a d := by
  cases d with
  | lst xs =>
    obtain ⟨vs, e, r⟩ := h
    exact ⟨vs, hk _ e, Reps.tr t r⟩
  | dct b kvs =>
    cases b with
    | false =>
      obtain ⟨ks, e, r⟩ := h
      exact ⟨ks, hk _ e, Paired.imp2 r fun _ _ z => ⟨z.1, Rep.tr t z.2⟩⟩
    | true =>
      obtain ⟨ks, e, r⟩ := h
      exact ⟨ks, hk _ e, Paired.imp2 r fun _ _ z => ⟨z.1, Rep.tr t z.2⟩⟩
theorem OwnR.some {a : Addr} {d : LD} (h : OwnR K H M γ a d) : ∃ o, H a = some o := by
  cases d with
  | lst xs => obtain ⟨vs, e, r⟩ := h; exact ⟨_, e⟩
  | dct b kvs => cases b <;> (obtain ⟨vs, e, r⟩ := h; exact ⟨_, e⟩)
theorem OwnR.tr (t : Tr H M γ H' M' γ') {a : Addr} {d : LD} (h : OwnR K H M γ a d) (n : ¬ M a ∨ a ∈ γ.lock) : OwnR K H' M' γ' a d := h.tr' t fun o e => t.keep a o e n
end
section
variable {K : PySem.W.Frag} {H0 H H' : Hp} {γ γ' : Gm} {σ : L2.St} {st st' : ST} {v : V}
theorem Sim.muSome (S : Sim K H γ σ st) {a : Addr} (m : Mu γ σ st a) : ∃ o, H a = some o := by
  rcases m with m | ⟨i, d, h1, h2⟩
  · exact S.gl a m
  · obtain ⟨v, e, r⟩ := S.sv i _ h1
    rw [h2] at e; cases e
    obtain ⟨b, e, r⟩ := r
    cases e
    exact r.some
theorem Sim.fresh (S : Sim K H γ σ st) {a : Addr} (h : H a = none) : ¬ Mu γ σ st a := fun m => by
  obtain ⟨o, e⟩ := S.muSome m
  rw [h] at e; cases e
/-- the heap has grown -/
theorem Tr.ext {M : Addr → Prop} (h : ∀ a o, H a = some o → H' a = some o) : Tr H M γ H' M γ := by
  refine ⟨fun a o e _ => h a o e, fun _ m => m, fun a e => ?_, fun _ m => .inl m, ⟨[], by simp⟩⟩
  cases q : H a with
  | none => rfl
  | some o => rw [h a o q] at e; cases e
theorem Sim.ext (S : Sim K H γ σ st) (h : ∀ a o, H a = some o → H' a = some o) : Sim K H' γ σ st :=
  ⟨S.len, fun i s e => by
    obtain ⟨v, e1, r⟩ := S.sv i s e
    refine ⟨v, e1, ?_⟩
    cases s with
    | v p => exact Rep.tr (Tr.ext h) r
    | own d =>
      obtain ⟨a, e2, r⟩ := r
      exact ⟨a, e2, r.tr' (Tr.ext h) fun o q => h a o q⟩, S.inj, fun a m => by
    obtain ⟨o, e⟩ := S.gl a m
    exact ⟨o, h a o e⟩, S.sep, S.g0⟩
theorem upd_ext {p : Addr} {o : HO} (h : H p = none) : ∀ a u, H a = some u → upd H p o a = some u := fun a u e => by
  rw [upd_ne fun z => by rw [z, h] at e; cases e]
  exact e
theorem ErR.dv (S : Sim K H γ σ st) {e : ER} (r : ErR K H0 H γ σ st v e) : DvR K H (Mu γ σ st) γ v (e.get st) := by
  cases e with
  | v p => exact r
  | own d =>
    obtain ⟨a, h1, _, _, h4⟩ := r
    exact ⟨a, h1, h4⟩
  | slot i =>
    unfold ER.get
    dsimp only
    cases q : envAt st i with
    | none => trivial
    | some s =>
      obtain ⟨v', e1, r'⟩ := S.sv i s q
      have r0 : σ[i]? = some (some v) := r
      rw [r0] at e1; cases e1
      cases s with
      | v p => exact r'
      | own d => exact r'
/-- a result carried over a further evaluation -/
theorem ErR.tr (t : Tr H (Mu γ σ st) γ H' (Mu γ' σ st') γ') {e : ER} (r : ErR K H0 H γ σ st v e) : ErR K H0 H' γ' σ st' v e := by
  cases e with
  | v p => exact Rep.tr t r
  | own d =>
    obtain ⟨a, h1, h2, h3, h4⟩ := r
    obtain ⟨o, ho⟩ := h4.some
    exact ⟨a, h1, h2, t.lock a h3, h4.tr t (.inr h3)⟩
  | slot i => exact r
/-- .. seen from an earlier heap -/
theorem ErR.old {H00 : Hp} (h : ∀ a, H0 a = none → H00 a = none) {e : ER} (r : ErR K H0 H γ σ st v e) : ErR K H00 H γ σ st v e := by
  cases e with
  | v p => exact r
  | own d =>
    obtain ⟨a, h1, h2, h3, h4⟩ := r
    exact ⟨a, h1, h a h2, h3, h4⟩
  | slot i => exact r

/-- .. of new lists that are free to be values -/
def ErU (K : PySem.W.Frag) (H : Hp) (γ : Gm) (σ : L2.St) (st : ST) (v : V) : ER → Prop
  | .v p => Rep K H (Mu γ σ st) γ v p
  | .own d => ∃ a, v = .ref a ∧ ¬ Mu γ σ st a ∧ OwnR K H (Mu γ σ st) γ a d
  | .slot i => σ[i]? = some (some v)
def Gm.at (γ γs : Gm) : Gm := ⟨γ.obj, γs.lock⟩
def Gm.add (γ : Gm) (a : Addr) : Gm := ⟨γ.obj, a :: γ.lock⟩
section
variable {γs : Gm} {Hs : Hp} {Ms : Addr → Prop}
theorem mu_at (h : ∀ a, a ∈ γs.lock → a ∈ γ.lock) {a : Addr} (m : Mu (γ.at γs) σ st a) : Mu γ σ st a := by
  rcases m with (m | m) | m
  · exact .inl (.inl m)
  · exact .inl (.inr (h a m))
  · exact .inr m
theorem tr_at (h : ∀ a, a ∈ γs.lock → a ∈ γ.lock) : Tr H (Mu γ σ st) ⟨γ.obj, []⟩ H (Mu (γ.at γs) σ st) (γ.at γs) :=
  ⟨fun _ _ e _ => e, fun _ m => absurd m (by simp), fun _ e => e, fun _ m => .inl (mu_at h m), ⟨[], by simp [Gm.at]⟩⟩
mutual
theorem Rep.gam {M : Addr → Prop} {γ γ' : Gm} (h : γ.obj = γ'.obj) : ∀ {p : PV} {v : V}, Rep K H M γ v p → Rep K H M γ' v p
  | .non, _, h => by cases h; exact .non
  | .bl b, _, h => by cases h; exact .bl b
  | .int b, _, h => by cases h; exact .int b
  | .str b, _, h => by cases h; exact .str b
  | .tup xs, _, w => by
    cases w with
    | tup a n r => exact .tup a n (Reps.gam h r)
  | .lst xs, _, w => by
    cases w with
    | lst a n r => exact .lst a n (Reps.gam h r)
  | .scr ns, _, w => by
    cases w with
    | scr a => exact .scr a
  | .obj n, _, w => by
    cases w with
    | obj a => exact .obj (by rw [← h]; exact a)
theorem Reps.gam {M : Addr → Prop} {γ γ' : Gm} (h : γ.obj = γ'.obj) : ∀ {xs : List PV} {vs : List V}, Reps K H M γ vs xs → Reps K H M γ' vs xs
  | [], _, w => by cases w; exact .nil
  | x :: xs, _, w => by
    cases w with
    | cons a b => exact .cons (Rep.gam h a) (Reps.gam h b)
end
theorem OwnR.gam {M : Addr → Prop} {γ γ' : Gm} (h : γ.obj = γ'.obj) {a : Addr} {d : LD} (w : OwnR K H M γ a d) : OwnR K H M γ' a d := by
  cases d with
  | lst xs =>
    obtain ⟨vs, e, r⟩ := w
    exact ⟨vs, e, Reps.gam h r⟩
  | dct b kvs =>
    cases b <;> (obtain ⟨ks, e, r⟩ := w; exact ⟨ks, e, Paired.imp2 r fun _ _ z => ⟨z.1, Rep.gam h z.2⟩⟩)
/-- the new lists are let go -/
theorem Sim.unlock (S : Sim K H γ σ st) (h : ∀ a, a ∈ γs.lock → a ∈ γ.lock) : Sim K H (γ.at γs) σ st := by
  refine ⟨S.len, fun i s e => ?_, S.inj, fun a m => S.gl a ?_, fun i d a e q m => S.sep i d a e q ?_, S.g0⟩
  · obtain ⟨v, e1, r⟩ := S.sv i s e
    refine ⟨v, e1, ?_⟩
    cases s with
    | v p => exact Rep.tr (tr_at h) (Rep.gam (γ := γ) (γ' := ⟨γ.obj, []⟩) rfl r)
    | own d =>
      obtain ⟨a, e2, r⟩ := r
      exact ⟨a, e2, (OwnR.gam (γ := γ) (γ' := ⟨γ.obj, []⟩) rfl r).tr' (tr_at h) fun o q => q⟩
  · rcases m with m | m
    · exact .inl m
    · exact .inr (h a m)
  · rcases m with m | m
    · exact .inl m
    · exact .inr (h a m)
theorem Tr.unlock (T : Tr Hs Ms γs H (Mu γ σ st) γ) : Tr Hs Ms γs H (Mu (γ.at γs) σ st) (γ.at γs) :=
  ⟨T.keep, fun _ m => m, T.dom, fun a m => T.mu a (mu_at T.lock m), T.gam⟩
theorem ErR.unlock (T : Tr Hs Ms γs H (Mu γ σ st) γ) (hL : ∀ a, a ∈ γs.lock → Hs a ≠ none) (S : Sim K H γ σ st) {e : ER} (r : ErR K Hs H γ σ st v e) : ErU K H (γ.at γs) σ st v e := by
  cases e with
  | v p => exact Rep.tr (tr_at T.lock) (Rep.gam (γ := γ) (γ' := ⟨γ.obj, []⟩) rfl r)
  | own d =>
    obtain ⟨a, h1, h2, h3, h4⟩ := r
    refine ⟨a, h1, fun m => ?_, (OwnR.gam (γ := γ) (γ' := ⟨γ.obj, []⟩) rfl h4).tr' (tr_at T.lock) fun o q => q⟩
    rcases m with (m | m) | ⟨i, d', e, q⟩
    · rw [show (γ.at γs).obj = γ.obj from rfl, S.g0.1] at m; cases m
    · exact hL a m h2
    · exact S.sep i d' a e q (.inr h3)
  | slot i => exact r
end
end
end Q
end
section
namespace Q
open PySem PySem.Spec PyProof.Rows
open L2 hiding cutV
/-! ### operations on values -/
def ResR (K : PySem.W.Frag) (H H' : Hp) (M : Addr → Prop) (γ : Gm) (v : V) : ER → Prop
  | .v p => Rep K H' M γ v p
  | .own d => ∃ a, v = .ref a ∧ H a = none ∧ ∀ M' : Addr → Prop, (∀ b, M' b → M b ∨ b = a) → OwnR K H' M' γ a d
  | .slot _ => False
abbrev Ext (H H' : Hp) : Prop := ∀ a o, H a = some o → H' a = some o
theorem Ext.refl {H : Hp} : Ext H H := fun _ _ h => h
theorem sizeL : sizeLine = line := by rw [sizeLine_eq]; rfl
section
variable {K : PySem.W.Frag} {H H' : Hp} {M : Addr → Prop} {γ : Gm} {v : V}
theorem DvR.lst {x : DV} {xs : List PV} (e : x.lst = some xs) (r : DvR K H M γ v x) : ∃ a vs, v = .ref a ∧ H a = some (.lst vs) ∧ Reps K H M γ vs xs := by
  unfold DV.lst at e
  split at e
  · cases e
    cases r with
    | lst h n r => exact ⟨_, _, rfl, h, r⟩
  · cases e
    obtain ⟨a, e, vs, h, r⟩ := r
    exact ⟨a, vs, e, h, r⟩
  · cases e
theorem KSq.sq {a : Addr} {xs : List V} (h : KSq K a xs) : SqL K H a xs := .inr h
theorem DvR.seq {x : DV} {xs : List PV} (e : x.seq = some xs) (r : DvR K H M γ v x) : ∃ a vs, v = .ref a ∧ (SqL K H a vs ∨ SqT K H a vs) ∧ Reps K H M γ vs xs := by
  unfold DV.seq at e
  split at e
  · cases e
    cases r with
    | tup h n r => exact ⟨_, _, rfl, .inr (SqT.of h), r⟩
  · cases e
    cases r with
    | lst h n r => exact ⟨_, _, rfl, .inl (SqL.of h), r⟩
  · cases e
    cases r with
    | scr h =>
      rcases h with ⟨h, n⟩ | h
      · exact ⟨_, _, rfl, .inl (.inl h), Reps.ints _⟩
      · exact ⟨_, _, rfl, .inl h.sq, Reps.ints _⟩
  · cases e
    obtain ⟨a, e, vs, h, r⟩ := r
    exact ⟨a, vs, e, .inl (SqL.of h), r⟩
  · cases e
mutual
theorem Rep.dp : ∀ {p : PV} {v : V}, Rep K H M γ v p → PyData.canLay0 p.toD = true → Dp K H v p.toD
  | .non, _, h, _ => by cases h; exact .non
  | .bl b, _, h, _ => by cases h; exact .bl b
  | .int b, _, h, _ => by cases h; exact .int b
  | .str b, _, h, _ => by cases h; exact .str b
  | .tup xs, _, h, f => by
    cases h with
    | tup h n r => exact .tup (SqT.of h) (Reps.dp r (by simpa only [PV.toD, PyData.canLay0] using f))
  | .lst xs, _, h, f => by
    cases h with
    | lst h n r => exact .lst (SqL.of h) (Reps.dp r (by simpa only [PV.toD, PyData.canLay0] using f))
  | .scr ns, _, h, f => by simp [PV.toD, PyData.canLay0] at f
  | .obj n, _, h, f => by simp [PV.toD, PyData.canLay0] at f
theorem Reps.dp : ∀ {xs : List PV} {vs : List V}, Reps K H M γ vs xs → PyData.canLayAll0 (PV.toDs xs) = true → DpAll K H vs (PV.toDs xs)
  | [], _, h, _ => by cases h; exact .nil
  | x :: xs, _, h, f => by
    cases h with
    | cons a b =>
      have f' := f
      simp only [PV.toDs, PyData.canLayAll0, Bool.and_eq_true] at f'
      exact .cons (Rep.dp a f'.1) (Reps.dp b f'.2)
end
theorem DvR.dp {x : DV} {p : PV} (e : x.pv = some p) (r : DvR K H M γ v x) (f : PyData.canLay0 p.toD = true) : Dp K H v p.toD := by
  unfold DV.pv at e
  split at e
  · cases e; exact Rep.dp r f
  · cases e
    obtain ⟨a, rfl, vs, h, r⟩ := r
    exact .lst (SqL.of h) (Reps.dp r (by simpa only [PV.toD, PyData.canLay0] using f))
  · cases e
theorem fit_lay {p : PV} (h : p.fit = true) : PyData.canLay0 p.toD = true := SeqAt.canLay_of_shaped h
theorem Reps.intsOf : ∀ {xs : List PV} {vs : List V} {ns : List Int}, Reps K H M γ vs xs → intsOf xs = some ns → vs = ns.map V.int
  | _, _, _, .nil, e => by cases e; rfl
  | .int i :: _, _, ns, .cons a b, e => by
    cases a
    simp only [Q.intsOf, Option.map_eq_some_iff] at e
    obtain ⟨ms, e1, rfl⟩ := e
    rw [Reps.intsOf b e1]; rfl
  | .non :: _, _, _, .cons _ _, e => by cases e
  | .bl _ :: _, _, _, .cons _ _, e => by cases e
  | .str _ :: _, _, _, .cons _ _, e => by cases e
  | .tup _ :: _, _, _, .cons _ _, e => by cases e
  | .lst _ :: _, _, _, .cons _ _, e => by cases e
  | .scr _ :: _, _, _, .cons _ _, e => by cases e
  | .obj _ :: _, _, _, .cons _ _, e => by cases e
theorem Reps.boolsOf : ∀ {xs : List PV} {vs : List V} {ns : List Bool}, Reps K H M γ vs xs → boolsOf xs = some ns → vs = ns.map V.bl
  | _, _, _, .nil, e => by cases e; rfl
  | .bl i :: _, _, ns, .cons a b, e => by
    cases a
    simp only [Q.boolsOf, Option.map_eq_some_iff] at e
    obtain ⟨ms, e1, rfl⟩ := e
    rw [Reps.boolsOf b e1]; rfl
  | .non :: _, _, _, .cons _ _, e => by cases e
  | .int _ :: _, _, _, .cons _ _, e => by cases e
  | .str _ :: _, _, _, .cons _ _, e => by cases e
  | .tup _ :: _, _, _, .cons _ _, e => by cases e
  | .lst _ :: _, _, _, .cons _ _, e => by cases e
  | .scr _ :: _, _, _, .cons _ _, e => by cases e
  | .obj _ :: _, _, _, .cons _ _, e => by cases e
theorem Reps.strsOf : ∀ {xs : List PV} {vs : List V} {ns : List Str}, Reps K H M γ vs xs → strsOf xs = some ns → vs = ns.map V.str
  | _, _, _, .nil, e => by cases e; rfl
  | .str i :: _, _, ns, .cons a b, e => by
    cases a
    simp only [Q.strsOf, Option.map_eq_some_iff] at e
    obtain ⟨ms, e1, rfl⟩ := e
    rw [Reps.strsOf b e1]; rfl
  | .non :: _, _, _, .cons _ _, e => by cases e
  | .int _ :: _, _, _, .cons _ _, e => by cases e
  | .bl _ :: _, _, _, .cons _ _, e => by cases e
  | .tup _ :: _, _, _, .cons _ _, e => by cases e
  | .lst _ :: _, _, _, .cons _ _, e => by cases e
  | .scr _ :: _, _, _, .cons _ _, e => by cases e
  | .obj _ :: _, _, _, .cons _ _, e => by cases e
end
/-- an operation of two values: what it asks -/
def rO2 (K : PySem.W.Frag) (f : DV → DV → Option ER) : R2 := fun x y H Qk => ∃ (M : Addr → Prop) (γ : Gm) (dx dy : DV) (er : ER), DvR K H M γ x dx ∧ DvR K H M γ y dy ∧ (∀ a, M a → H a ≠ none) ∧ f dx dy = some er ∧
  ∀ v H', Ext H H' → ResR K H H' M γ v er → Qk v H'
def bER (o : Option Bool) : Option ER := o.map fun b => .v (.bl b)
section
variable {X : Cx}
theorem fits {n m : Nat} (h : n + m ≤ line) : n + m ≤ sizeLine := by rw [sizeL]; exact h
/-- a new object: carried over -/
theorem reps_new {K : PySem.W.Frag} {H : Hp} {M : Addr → Prop} {γ : Gm} {vs : List V} {xs : List PV} {p : Addr} {o : HO} (hp : H p = none) (r : Reps K H M γ vs xs) : Reps K (upd H p o) M γ vs xs := Reps.tr (Tr.ext (upd_ext hp)) r
/-- the contents of a new object, which nothing there is -/
theorem reps_own {K : PySem.W.Frag} {H : Hp} {M M' : Addr → Prop} {γ : Gm} {vs : List V} {xs : List PV} {p : Addr} {o : HO} (hp : H p = none) (hM : ∀ b, M' b → M b ∨ b = p) (r : Reps K H M γ vs xs) : Reps K (upd H p o) M' γ vs xs := by
  have T := Tr.ext (γ := γ) (M := M) (upd_ext (o := o) hp)
  refine Reps.tr ⟨T.keep, T.lock, T.dom, fun b m => ?_, T.gam⟩ r
  rcases hM b m with z | rfl
  · exact .inl z
  · exact .inr hp
theorem opAdd : OpR X (binaryOp .Add) (rO2 X.K (binO .Add)) := by
  intro pins s σ H x y v u Q I rx ry h
  obtain ⟨M, γ, dx, dy, er, hx, hy, hM, hf, hq⟩ := h
  unfold binO at hf
  split at hf
  · simp only [binI, Option.map_some, Option.some.injEq] at hf
    subst hf
    cases hx; cases hy
    exact op_add pins s σ H _ _ v u Q I rx ry ⟨_, _, rfl, rfl, hq _ _ Ext.refl (Rep.int _)⟩
  · dsimp only at hf
    unfold addO at hf
    split at hf
    · split at hf
      · rename_i hz
        cases hf
        cases hx; cases hy
        exact op_add_str pins s σ H _ _ v u Q I rx ry ⟨_, _, rfl, rfl, fits hz, hq _ _ Ext.refl (Rep.str _)⟩
      · cases hf
    · split at hf
      · rename_i hz
        cases hf
        cases hx with
        | tup h1 n1 r1 =>
          cases hy with
          | tup h2 n2 r2 =>
            refine op_catA pins s σ H _ _ v u Q I rx ry ⟨_, _, _, _, rfl, rfl, SqT.of h1, SqT.of h2, by rw [r1.len, r2.len]; exact fits hz, fun e => ?_, fun e1 e => ?_, fun e1 e2 p hp => ?_⟩
            · subst e
              cases r1
              exact hq _ _ Ext.refl (Rep.tup h2 n2 r2)
            · subst e
              cases r2
              exact hq _ _ Ext.refl (Rep.tup h1 n1 (by rw [List.append_nil]; exact r1))
            · refine hq _ _ (upd_ext hp) (Rep.tup upd_same (fun m => hM p m hp) ?_)
              exact Reps.app (reps_new hp r1) (reps_new hp r2)
      · cases hf
    · split at hf
      · split at hf
        · rename_i e1 e2 hz
          cases hf
          obtain ⟨a, vs, rfl, h1, r1⟩ := hx.lst e1
          obtain ⟨b, ws, rfl, h2, r2⟩ := hy.lst e2
          refine op_cat pins s σ H _ _ v u Q I rx ry ⟨_, _, _, _, rfl, rfl, h1, h2, by rw [r1.len, r2.len]; exact fits hz, fun p hp => ?_⟩
          exact hq _ _ (upd_ext hp) ⟨p, rfl, hp, fun M' hM' => ⟨_, upd_same, Reps.app (reps_own hp hM' r1) (reps_own hp hM' r2)⟩⟩
        · cases hf
      · cases hf

/-- a tuple times 1: it is itself -/
theorem tuple_mulOne (l : Addr) (items : Array Value) (n : Nat) (dd : Option Addr) (sl : Array (Option Value)) (u : Tok) :
    Meets (Builtin.«tuple.__mul__» ⟨[.ref l, .int 1 u], []⟩) (fun _ R s => s.heap.get? l = some { cls := .type "tuple", dict := dd, data := .seq items n, slots := sl } ∧ R (.ok (.ret (Value.ref l))) s) :=
  .of_wp fun prog w A R s h => by
    obtain ⟨hp, g, d, tk, os⟩ := s
    obtain ⟨hl, h⟩ := h
    have f1 := AutoSeq1.idx_int
    have c1 : (items.isEmpty || (1 : Int) == 1) = true := by rw [show ((1 : Int) == 1) = true from rfl, Bool.or_true]
    wp_walk using wpAny_loadPart' hl
    exact ⟨_, rfl, h⟩
theorem op_tupOne : OpR X (binaryOp .Mult) (fun x y H Qk => ∃ l xs, x = .ref l ∧ y = .int 1 ∧ SqT X.K H l xs ∧ Qk (.ref l) H) := by
  intro pins s σ H x y v u Qk I rx ry h
  obtain ⟨l, xs, rfl, rfl, hT, q⟩ := h
  cases rx
  obtain ⟨t, rfl⟩ := ry
  obtain ⟨its, r, ⟨⟨cls, dd, data, sl⟩, ho, hc, n, hd⟩, hs⟩ := I.tuple hT
  simp only at hc hd
  subst hc hd
  refine wpAny_binaryOp_repeat_ref (T := "tuple") (U := "int") (by decide) ⟨_, ho, rfl⟩ (fun s' => typeIs_int s' 1 t) noFill_tuple_mul F.fills_int_mul F.slot_int_rmul repeat_tuple F.slot_int_index.lookup
    (call_meets F.slot_int_rmul (typeIs_int s 1 t) F.entry_int_rmul (F.args_int_rmul_2 _ _) (int_rmul_tuple 1 t l its.toArray n dd sl)
      ⟨ho, rfl, ⟨_, ho, rfl⟩, call_meets F.slot_tuple_mul ⟨_, ho, rfl⟩ F.entry_tuple_mul (F.args_tuple_mul_2 _ _) (tuple_mulOne l its.toArray n dd sl t) ⟨ho, ?_⟩⟩)
  exact ⟨.ref l, H, I, rfl, q⟩
theorem reps_flat {K : PySem.W.Frag} {H : Hp} {M : Addr → Prop} {γ : Gm} {vs : List V} {xs : List PV} (r : Reps K H M γ vs xs) : ∀ n : Nat, Reps K H M γ (List.replicate n vs).flatten (List.replicate n xs).flatten
  | 0 => .nil
  | n + 1 => by
    rw [List.replicate_succ, List.replicate_succ, List.flatten_cons, List.flatten_cons]
    exact Reps.app r (reps_flat r n)
theorem mulOk_of {a b : Int} (h : mulOk a b = true) : CMulW a b := by
  unfold mulOk at h
  have h' : a.natAbs.log2 + b.natAbs.log2 < 1000000 := of_decide_eq_true h
  exact h'
theorem opMul : OpR X (binaryOp .Mult) (rO2 X.K (binO .Mult)) := by
  intro pins s σ H x y v u Qk I rx ry h
  obtain ⟨M, γ, dx, dy, er, hx, hy, hM, hf, hq⟩ := h
  unfold binO at hf
  split at hf
  · simp only [binI] at hf
    split at hf
    · rename_i hz
      simp only [Option.map_some, Option.some.injEq] at hf
      subst hf
      cases hx; cases hy
      exact op_mulW pins s σ H _ _ v u Qk I rx ry ⟨_, _, rfl, rfl, mulOk_of hz, hq _ _ Ext.refl (Rep.int _)⟩
    · cases hf
  · dsimp only at hf
    unfold mulO at hf
    split at hf
    · split at hf
      · rename_i hz
        cases hf
        obtain ⟨h0, h1, h2, h3⟩ := hz
        cases hy
        cases hx with
        | tup ht nt rt =>
          rename_i a k _ _ vs
          by_cases hk : k = 1
          · subst hk
            refine op_tupOne pins s σ H _ _ v u Qk I rx ry ⟨_, _, rfl, rfl, SqT.of ht, ?_⟩
            refine hq _ _ Ext.refl ?_
            show Rep _ _ _ _ _ (.tup _)
            have e : (List.replicate (1 : Int).toNat a).flatten = a := by simp
            rw [e]
            exact Rep.tup ht nt rt
          · have hne : vs ≠ [] := fun e => by subst e; cases rt; exact h0 rfl
            refine op_repT pins s σ H _ _ v u Qk I rx ry ⟨_, _, _, rfl, rfl, SqT.of ht, hne, by omega, h2, by rw [rt.len]; exact h3, fun p hp => ?_⟩
            exact hq _ _ (upd_ext hp) (Rep.tup upd_same (fun m => hM p m hp) (reps_flat (reps_new hp rt) _))
      · cases hf
    · split at hf
      · split at hf
        · rename_i e1 hz
          cases hf
          obtain ⟨h1, h2, h3⟩ := hz
          cases hy
          obtain ⟨a, vs, rfl, hl, rl⟩ := hx.lst e1
          have h4 : vs.length ≤ 1000 := by rw [rl.len]; exact h3
          have hb : ∀ k : Int, k ≤ 1000 → vs.length * k.toNat ≤ sizeLine := fun k hk => by
            rw [sizeL]
            have q : vs.length * k.toNat ≤ 1000 * 1000 := Nat.mul_le_mul h4 (by omega)
            unfold line
            omega
          refine op_rep pins s σ H _ _ v u Qk I rx ry ⟨_, _, _, rfl, rfl, hl, by omega, by omega, hb _ h2, fun p hp => ?_⟩
          exact hq _ _ (upd_ext hp) ⟨p, rfl, hp, fun M' hM' => ⟨_, upd_same, reps_flat (reps_own hp hM' rl) _⟩⟩
        · cases hf
      · cases hf
    · cases hf
/-- the operators of numbers alone -/
theorem opNum {op : Operator} {r : R2} (ho : OpR X (binaryOp op) r) (h1 : op ≠ .Add) (h2 : op ≠ .Mult)
    (h : ∀ (a b i : Int) (H : Hp) (Qk : VK), binI op a b = some i → Qk (.int i) H → r (.int a) (.int b) H Qk) : OpR X (binaryOp op) (rO2 X.K (binO op)) := by
  intro pins s σ H x y v u Qk I rx ry hh
  obtain ⟨M, γ, dx, dy, er, hx, hy, hM, hf, hq⟩ := hh
  unfold binO at hf
  split at hf
  · simp only [Option.map_eq_some_iff] at hf
    obtain ⟨i, e, rfl⟩ := hf
    cases hx; cases hy
    exact ho pins s σ H _ _ v u Qk I rx ry (h _ _ i H Qk e (hq _ _ Ext.refl (Rep.int _)))
  · split at hf
    · exact absurd rfl h1
    · exact absurd rfl h2
    · cases hf
theorem powOk_of {a b : Int} (h : powOk a b = true) : CPow a b := by
  unfold powOk at h
  simp only [Bool.and_eq_true, decide_eq_true_eq] at h
  exact ⟨h.1.1, h.1.2, h.2⟩
theorem opBin : ∀ {op : Operator}, (op = .Add ∨ op = .Sub ∨ op = .Mult ∨ op = .FloorDiv ∨ op = .Mod ∨ op = .Pow ∨ op = .LShift ∨ op = .RShift ∨ op = .BitAnd) → OpR X (binaryOp op) (rO2 X.K (binO op)) := by
  intro op h
  rcases h with rfl | rfl | rfl | rfl | rfl | rfl | rfl | rfl | rfl
  · exact opAdd
  · exact opNum op_sub (by decide) (by decide) fun a b i H Qk e q => ⟨a, b, rfl, rfl, by cases e; exact q⟩
  · exact opMul
  · refine opNum op_fdivW (by decide) (by decide) fun a b i H Qk e q => ?_
    simp only [binI] at e
    split at e
    · rename_i hz
      cases e
      exact ⟨a, b, rfl, rfl, hz, q⟩
    · cases e
  · refine opNum op_mod (by decide) (by decide) fun a b i H Qk e q => ?_
    simp only [binI] at e
    split at e
    · rename_i hz
      cases e
      exact ⟨a, b, rfl, rfl, hz, q⟩
    · cases e
  · refine opNum op_pow (by decide) (by decide) fun a b i H Qk e q => ?_
    simp only [binI] at e
    split at e
    · rename_i hz
      cases e
      exact ⟨a, b, rfl, rfl, powOk_of hz, q⟩
    · cases e
  · refine opNum op_shl (by decide) (by decide) fun a b i H Qk e q => ?_
    simp only [binI] at e
    split at e
    · rename_i hz
      cases e
      exact ⟨a, b, rfl, rfl, powOk_of hz, q⟩
    · cases e
  · refine opNum op_shr (by decide) (by decide) fun a b i H Qk e q => ?_
    simp only [binI] at e
    split at e
    · rename_i hz
      cases e
      exact ⟨a, b, rfl, rfl, hz, q⟩
    · cases e
  · exact opNum op_and (by decide) (by decide) fun a b i H Qk e q => ⟨a, b, rfl, rfl, by cases e; exact q⟩
end
end Q
end
section
set_option maxHeartbeats 1000000
namespace Q
open PySem PySem.Spec PyProof.Rows
open L2 hiding cutV
/-! ### keys -/
def toKey : PV → Key
  | .int i => .inl i
  | .str x => .inr x
  | _ => .inl 0
theorem keyR_to : ∀ {p : PV}, flatKey p = true → KeyR (toKey p) p
  | .int _, _ => rfl
  | .str _, _ => rfl
theorem keyR_eq : ∀ {k : Key} {p : PV}, KeyR k p → k = toKey p ∧ flatKey p = true
  | .inl _, .int _, h => ⟨by rw [show _ = _ from h]; rfl, rfl⟩
  | .inr _, .str _, h => ⟨by rw [show _ = _ from h]; rfl, rfl⟩
theorem keyRs_eq : ∀ {k : List Key} {p : List PV}, KeyRs k p → k = p.map toKey ∧ p.all flatKey = true
  | _, _, .nil => ⟨rfl, rfl⟩
  | _, _, .cons r t => by
    obtain ⟨e1, f1⟩ := keyR_eq r
    obtain ⟨e2, f2⟩ := keyRs_eq t
    exact ⟨by rw [e1, e2]; rfl, by simp [f1, f2]⟩
theorem keyRs_to : ∀ {p : List PV}, p.all flatKey = true → KeyRs (p.map toKey) p
  | [], _ => .nil
  | x :: r, h => by
    simp only [List.all_cons, Bool.and_eq_true] at h
    exact .cons (keyR_to h.1) (keyRs_to h.2)
theorem keyEq_flat : ∀ {p q : PV}, flatKey p = true → flatKey q = true → keyEq p q = decide (toKey p = toKey q)
  | .int a, .int b, _, _ => by
    show (a == b) = decide ((Sum.inl a : Key) = Sum.inl b)
    rw [key_ll]
  | .str a, .str b, _, _ => by
    show (a == b) = decide ((Sum.inr a : Key) = Sum.inr b)
    rw [key_rr, Bool.beq_eq_decide_eq]
  | .int a, .str b, _, _ => by show false = decide ((Sum.inl a : Key) = Sum.inr b); rw [key_lr]
  | .str a, .int b, _, _ => by show false = decide ((Sum.inr a : Key) = Sum.inl b); rw [key_rl]
theorem keysEq_flat : ∀ {p q : List PV}, p.all flatKey = true → q.all flatKey = true → keyEq.keysEq p q = decide (p.map toKey = q.map toKey)
  | [], [], _, _ => rfl
  | [], _ :: _, _, _ => by simp [keyEq.keysEq]
  | x :: _, [], _, _ => by cases x <;> simp [keyEq.keysEq]
  | x :: xs, y :: ys, h, g => by
    simp only [List.all_cons, Bool.and_eq_true] at h g
    have e1 := keyEq_flat h.1 g.1
    have e2 := keysEq_flat h.2 g.2
    have e3 : keyEq.keysEq (x :: xs) (y :: ys) = (keyEq x y && keyEq.keysEq xs ys) := by
      cases x <;> cases y <;> first | rfl | (simp [keyEq.keysEq, keyEq]; done) | (exact absurd h.1 (by simp [flatKey])) | (exact absurd g.1 (by simp [flatKey]))
    rw [e3, e1, e2]
    simp only [List.map_cons, List.cons.injEq, Bool.decide_and]
section
variable {K : PySem.W.Frag} {H : Hp} {M : Addr → Prop} {γ : Gm}
theorem rep_key {v : V} {p : PV} (r : Rep K H M γ v p) (f : flatKey p = true) : v = kV (toKey p) := by
  cases r <;> first | rfl | cases f
theorem reps_keys : ∀ {vs : List V} {xs : List PV}, Reps K H M γ vs xs → xs.all flatKey = true → vs = (xs.map toKey).map kV
  | _, _, .nil, _ => rfl
  | _, _, .cons r t, h => by
    simp only [List.all_cons, Bool.and_eq_true] at h
    rw [rep_key r h.1, reps_keys t h.2]; rfl
/-- one store of pairs and the other: what a key has -/
theorem get_flat {R : V → PV → Prop} : ∀ {ks : List (Key × V)} {kvs : List (PV × PV)}, Paired (fun k p => KeyR k.1 p.1 ∧ R k.2 p.2) ks kvs → ∀ {p : PV}, flatKey p = true →
    (match valV ks (toKey p), dGet kvs p with | some v, some q => R v q | none, none => True | _, _ => False)
  | _, _, .nil, _, _ => by simp [dGet, valV_nil]
  | (k, v) :: ks, (a, q) :: kvs, .cons r t, p, f => by
    obtain ⟨e1, f1⟩ := keyR_eq r.1
    have e : keyEq a p = decide (toKey a = toKey p) := keyEq_flat f1 f
    have ih := get_flat t f
    have e1 : k = toKey a := e1
    subst e1
    by_cases h : toKey a = toKey p
    · rw [valV_pos h]
      simp only [dGet, e, decide_eq_true h, if_true]
      exact r.2
    · rw [valV_neg h]
      simp only [dGet, e, decide_eq_false h, Bool.false_eq_true, if_false]
      exact ih
theorem get_tup {R : V → PV → Prop} : ∀ {ks : List (List Key × V)} {kvs : List (PV × PV)}, Paired (fun k p => KTup k.1 p.1 ∧ R k.2 p.2) ks kvs → ∀ {xs : List PV}, xs.all flatKey = true →
    (match valV ks (xs.map toKey), dGet kvs (.tup xs) with | some v, some q => R v q | none, none => True | _, _ => False)
  | _, _, .nil, _, _ => by simp [dGet, valV_nil]
  | (k, v) :: ks, (a, q) :: kvs, .cons r t, xs, f => by
    obtain ⟨ys, e0, r1⟩ := r.1
    have e0 : a = .tup ys := e0
    subst e0
    obtain ⟨e1, f1⟩ := keyRs_eq r1
    have e : keyEq (.tup ys) (.tup xs) = decide (ys.map toKey = xs.map toKey) := keysEq_flat f1 f
    have ih := get_tup t f
    have e1 : k = ys.map toKey := e1
    subst e1
    by_cases h : ys.map toKey = xs.map toKey
    · rw [valV_pos h]
      simp only [dGet, e, decide_eq_true h, if_true]
      exact r.2
    · rw [valV_neg h]
      simp only [dGet, e, decide_eq_false h, Bool.false_eq_true, if_false]
      exact ih
theorem put_flat {R : V → PV → Prop} {ks : List (Key × V)} {kvs : List (PV × PV)} (r : Paired (fun k p => KeyR k.1 p.1 ∧ R k.2 p.2) ks kvs) {p q : PV} {v : V} (f : flatKey p = true) (rv : R v q) :
    Paired (fun k p => KeyR k.1 p.1 ∧ R k.2 p.2) (putK ks (toKey p) v) (dPut kvs p q) := by
  have snoc : ∀ {ks : List (Key × V)} {kvs : List (PV × PV)}, Paired (fun k p => KeyR k.1 p.1 ∧ R k.2 p.2) ks kvs → Paired (fun k p => KeyR k.1 p.1 ∧ R k.2 p.2) (ks ++ [(toKey p, v)]) (kvs ++ [(p, q)]) := by
    intro ks kvs r
    induction r with
    | nil => exact .cons ⟨keyR_to f, rv⟩ .nil
    | cons a b ih => exact .cons a ih
  have rep : ∀ {ks : List (Key × V)} {kvs : List (PV × PV)}, Paired (fun k p => KeyR k.1 p.1 ∧ R k.2 p.2) ks kvs → Paired (fun k p => KeyR k.1 p.1 ∧ R k.2 p.2) (ks.map fun kv => if kv.1 = toKey p then (kv.1, v) else kv) (kvs.map fun z => if keyEq z.1 p then (z.1, q) else z) := by
    intro ks kvs r
    induction r with
    | nil => exact .nil
    | @cons k z ks kvs a b ih =>
      refine .cons ?_ ih
      obtain ⟨e1, f1⟩ := keyR_eq a.1
      dsimp only
      rw [keyEq_flat f1 f, ← e1]
      by_cases h : k.1 = toKey p
      · rw [if_pos h, if_pos (decide_eq_true h)]
        exact ⟨a.1, rv⟩
      · rw [if_neg h, if_neg (by simp [h])]
        exact a
  have g := get_flat r f
  unfold putK dPut dHas
  rw [valV_any]
  cases e1 : valV ks (toKey p) with
  | none =>
    rw [e1] at g
    cases e2 : dGet kvs p with
    | none => simpa using snoc r
    | some _ => rw [e2] at g; exact g.elim
  | some x =>
    rw [e1] at g
    cases e2 : dGet kvs p with
    | none => rw [e2] at g; exact g.elim
    | some _ => simpa using rep r
theorem put_tup {R : V → PV → Prop} {ks : List (List Key × V)} {kvs : List (PV × PV)} (r : Paired (fun k p => KTup k.1 p.1 ∧ R k.2 p.2) ks kvs) {xs : List PV} {q : PV} {v : V} (f : xs.all flatKey = true) (rv : R v q) :
    Paired (fun k p => KTup k.1 p.1 ∧ R k.2 p.2) (putK ks (xs.map toKey) v) (dPut kvs (.tup xs) q) := by
  have snoc : ∀ {ks : List (List Key × V)} {kvs : List (PV × PV)}, Paired (fun k p => KTup k.1 p.1 ∧ R k.2 p.2) ks kvs → Paired (fun k p => KTup k.1 p.1 ∧ R k.2 p.2) (ks ++ [(xs.map toKey, v)]) (kvs ++ [(.tup xs, q)]) := by
    intro ks kvs r
    induction r with
    | nil => exact .cons ⟨⟨xs, rfl, keyRs_to f⟩, rv⟩ .nil
    | cons a b ih => exact .cons a ih
  have rep : ∀ {ks : List (List Key × V)} {kvs : List (PV × PV)}, Paired (fun k p => KTup k.1 p.1 ∧ R k.2 p.2) ks kvs → Paired (fun k p => KTup k.1 p.1 ∧ R k.2 p.2) (ks.map fun kv => if kv.1 = xs.map toKey then (kv.1, v) else kv) (kvs.map fun z => if keyEq z.1 (.tup xs) then (z.1, q) else z) := by
    intro ks kvs r
    induction r with
    | nil => exact .nil
    | @cons k z ks kvs a b ih =>
      refine .cons ?_ ih
      obtain ⟨ys, e0, r1⟩ := a.1
      obtain ⟨e1, f1⟩ := keyRs_eq r1
      have e2 : keyEq z.1 (.tup xs) = decide (k.1 = xs.map toKey) := by rw [e0, e1]; exact keysEq_flat f1 f
      dsimp only
      rw [e2]
      by_cases h : k.1 = xs.map toKey
      · rw [if_pos h, if_pos (decide_eq_true h)]
        exact ⟨a.1, rv⟩
      · rw [if_neg h, if_neg (by simp [h])]
        exact a
  have g := get_tup r f
  unfold putK dPut dHas
  rw [valV_any]
  cases e1 : valV ks (xs.map toKey) with
  | none =>
    rw [e1] at g
    cases e2 : dGet kvs (.tup xs) with
    | none => simpa using snoc r
    | some _ => rw [e2] at g; exact g.elim
  | some x =>
    rw [e1] at g
    cases e2 : dGet kvs (.tup xs) with
    | none => rw [e2] at g; exact g.elim
    | some _ => simpa using rep r
/-- what a dict at a has for the key y -/
theorem own_get {a : Addr} {t : Bool} {kvs : List (PV × PV)} {y : V} {p : PV} (o : OwnR K H M γ a (.dct t kvs)) (ry : Rep K H M γ y p) (f : keyOk t p = true) :
    ∃ r, DGet H a y r ∧ (match r, dGet kvs p with | some v, some q => Rep K H M γ v q | none, none => True | _, _ => False) := by
  cases t with
  | false =>
    obtain ⟨ks, h, r⟩ := o
    have f : flatKey p = true := f
    refine ⟨valV ks (toKey p), ?_, get_flat r f⟩
    rw [rep_key ry f]
    exact DGet.k h
  | true =>
    obtain ⟨ks, h, r⟩ := o
    cases p with
    | tup xs =>
      have f : xs.all flatKey = true := f
      refine ⟨valV ks (xs.map toKey), ?_, get_tup r f⟩
      cases ry with
      | tup h1 n1 r1 =>
        refine DGet.t h ?_
        rw [h1, reps_keys r1 f]
    | _ => exact absurd f (by simp [keyOk])
end

section
variable {X : Cx}
theorem units64 {n : Nat} {A : Around} (r : Room n A) : A.units + 65 < cLine := by have := r.un; omega
theorem dv_none {K : PySem.W.Frag} {H : Hp} {M : Addr → Prop} {γ : Gm} {x : V} : ∀ {d : DV}, DvR K H M γ x d → d ≠ .bad → decide (x = .non) = isNone d
  | .v p, h, _ => by cases h <;> rfl
  | .d l, h, _ => by obtain ⟨a, rfl, _⟩ := h; rfl
  | .bad, _, n => absurd rfl n
theorem bER_some {o : Option Bool} {er : ER} (h : bER o = some er) : ∃ b, o = some b ∧ er = .v (.bl b) := by
  unfold bER at h
  obtain ⟨b, e, z⟩ := Option.map_eq_some_iff.mp h
  exact ⟨b, e, z.symm⟩
theorem opIs : OpR X (compareOp .Is) (rO2 X.K fun x y => bER (cmpO .Is x y)) := by
  intro pins s σ H x y v u Qk I rx ry h
  obtain ⟨M, γ, dx, dy, er, hx, hy, hM, hf, hq⟩ := h
  obtain ⟨b, hb, rfl⟩ := bER_some hf
  have hb : isO dx dy = some b := hb
  unfold isO at hb
  split at hb
  · split at hb
    · cases hb
    · rename_i hn
      cases hb
      cases hy
      refine op_isN pins s σ H _ _ v u Qk I rx ry ⟨rfl, ?_⟩
      rw [dv_none hx fun e => hn e]
      exact hq _ _ Ext.refl (Rep.bl _)
  · split at hb
    · cases hb
      cases hx; cases hy
      exact op_isBl pins s σ H _ _ v u Qk I rx ry ⟨_, _, rfl, rfl, hq _ _ Ext.refl (Rep.bl _)⟩
    · cases hb
  · cases hb
theorem opIsNot : OpR X (compareOp .IsNot) (rO2 X.K fun x y => bER (cmpO .IsNot x y)) := by
  intro pins s σ H x y v u Qk I rx ry h
  obtain ⟨M, γ, dx, dy, er, hx, hy, hM, hf, hq⟩ := h
  obtain ⟨b, hb, rfl⟩ := bER_some hf
  have hb : (isO dx dy).map (!·) = some b := hb
  obtain ⟨c, hc, rfl⟩ := Option.map_eq_some_iff.mp hb
  unfold isO at hc
  split at hc
  · split at hc
    · cases hc
    · rename_i hn
      cases hc
      cases hy
      refine op_notN pins s σ H _ _ v u Qk I rx ry ⟨rfl, ?_⟩
      rw [dv_none hx fun e => hn e]
      exact hq _ _ Ext.refl (Rep.bl _)
  · split at hc
    · cases hc
      cases hx; cases hy
      exact op_notBl pins s σ H _ _ v u Qk I rx ry ⟨_, _, rfl, rfl, hq _ _ Ext.refl (Rep.bl _)⟩
    · cases hc
  · cases hc
theorem eqO_some {dx dy : DV} {c : Bool} (h : eqO dx dy = some c) : (∃ a b, dx = .v (.str a) ∧ dy = .v (.str b) ∧ c = (a == b)) ∨ ∃ p q, dx.pv = some p ∧ dy.pv = some q ∧ p.fit = true ∧ q.fit = true ∧ c = p.eqv q := by
  unfold eqO at h
  split at h
  · cases h
    exact .inl ⟨_, _, rfl, rfl, rfl⟩
  · split at h
    · rename_i p q e1 e2
      split at h
      · rename_i hf
        simp only [Bool.and_eq_true] at hf
        cases h
        exact .inr ⟨p, q, e1, e2, hf.1, hf.2, rfl⟩
      · cases h
    · cases h
theorem opEq {n : Nat} (hr : Room n X.A) : OpR X (compareOp .Eq) (rO2 X.K fun x y => bER (cmpO .Eq x y)) := by
  intro pins s σ H x y v u Qk I rx ry h
  obtain ⟨M, γ, dx, dy, er, hx, hy, hM, hf, hq⟩ := h
  obtain ⟨b, hb, rfl⟩ := bER_some hf
  rcases eqO_some (show eqO dx dy = some b from hb) with ⟨a, b', rfl, rfl, rfl⟩ | ⟨p, q, e1, e2, f1, f2, rfl⟩
  · cases hx; cases hy
    exact op_eq pins s σ H _ _ v u Qk I rx ry ⟨rfl, by rw [dec_str]; exact hq _ _ Ext.refl (Rep.bl _)⟩
  exact op_eqD hr.units pins s σ H _ _ v u Qk I rx ry ⟨_, _, hx.dp e1 (fit_lay f1), hy.dp e2 (fit_lay f2), f1, f2, hq _ _ Ext.refl (Rep.bl _)⟩
theorem opNe {n : Nat} (hr : Room n X.A) : OpR X (compareOp .NotEq) (rO2 X.K fun x y => bER (cmpO .NotEq x y)) := by
  intro pins s σ H x y v u Qk I rx ry h
  obtain ⟨M, γ, dx, dy, er, hx, hy, hM, hf, hq⟩ := h
  obtain ⟨b, hb, rfl⟩ := bER_some hf
  have hb : (eqO dx dy).map (!·) = some b := hb
  obtain ⟨c, hc, rfl⟩ := Option.map_eq_some_iff.mp hb
  rcases eqO_some hc with ⟨a, b', rfl, rfl, rfl⟩ | ⟨p, q, e1, e2, f1, f2, rfl⟩
  · cases hx; cases hy
    exact op_ne pins s σ H _ _ v u Qk I rx ry ⟨rfl, by rw [dec_str]; exact hq _ _ Ext.refl (Rep.bl _)⟩
  exact op_neD hr.units pins s σ H _ _ v u Qk I rx ry ⟨_, _, hx.dp e1 (fit_lay f1), hy.dp e2 (fit_lay f2), f1, f2, hq _ _ Ext.refl (Rep.bl _)⟩
/-- x in y, both answers at once -/
theorem inAny {n : Nat} (hr : Room n X.A) {op : CmpOp} {g : Bool → Bool} (hop : (op = .In ∧ g = id) ∨ (op = .NotIn ∧ g = (!·))) {pins : List (Addr × Obj)} {s : Shared} {σ : L2.St} {H : Hp} {x y : V} {v u : Value} {Qk : VK} (I : Inv X pins σ H s) (rx : RelV x v) (ry : RelV y u)
    {M : Addr → Prop} {γ : Gm} {dx dy : DV} {c : Bool} (hx : DvR X.K H M γ x dx) (hy : DvR X.K H M γ y dy) (hf : inO dx dy = some c) (hq : Qk (.bl (g c)) H) :
    wpAny (model X.prog X.w) X.A (compareOp op v u) (EP X pins σ Qk) X.xe s := by
  unfold inO at hf
  split at hf
  · cases hf
  · rename_i p ep
    split at hf
    · -- a dict
      split at hf
      · rename_i t kvs hk
        cases hf
        obtain ⟨a, rfl, o⟩ := hy
        cases ry
        have rp : Rep X.K H M γ x p := by
          unfold DV.pv at ep
          split at ep
          · cases ep; exact hx
          · cases ep
            cases t <;> exact absurd hk (by simp [keyOk, flatKey])
          · cases ep
        obtain ⟨r, g0, hm⟩ := own_get o rp hk
        have e : dHas kvs p = r.isSome := by
          unfold dHas
          cases r <;> cases q : dGet kvs p <;> rw [q] at hm <;> first | rfl | exact hm.elim
        have hu : X.A.units + 1 < cLine := by have := units64 hr; omega
        rcases hop with ⟨rfl, rfl⟩ | ⟨rfl, rfl⟩
        · exact d_in hu I g0 rx fun s' I' => ⟨.bl _, H, I', rfl, by rw [← e]; exact hq⟩
        · exact d_notIn hu I g0 rx fun s' I' => ⟨.bl _, H, I', rfl, by rw [← e]; exact hq⟩
      · cases hf
    · -- a text
      split at hf
      · rename_i z0
        cases hf
        have rp : x = .str z0 := by
          unfold DV.pv at ep
          split at ep
          · cases ep; cases hx; rfl
          · cases ep
          · cases ep
        cases hy
        rcases hop with ⟨rfl, rfl⟩ | ⟨rfl, rfl⟩
        · exact op_in_str pins s σ H _ _ v u Qk I rx ry ⟨_, _, rp, rfl, hq⟩
        · exact op_notin_str pins s σ H _ _ v u Qk I rx ry ⟨_, _, rp, rfl, hq⟩
      · cases hf
    · -- a tuple
      split at hf
      · rename_i xs hz
        simp only [Bool.and_eq_true] at hz
        cases hf
        obtain ⟨as, r1⟩ := Dp.reads I p.toD x v (hx.dp ep (fit_lay hz.1)) rx
        have hd : Dp X.K H y (PV.tup xs).toD := DvR.dp (x := .v (.tup xs)) rfl hy (fit_lay hz.2)
        simp only [PV.toD] at hd
        obtain ⟨bs, r2⟩ := Dp.reads I _ y u hd ry
        have c1 : PyData.canLayAll0 (PV.toDs xs) = true := by have := fit_lay hz.2; simpa only [PV.toD, PyData.canLay0] using this
        have e : (xs.any fun q => q.eqv p) = (PV.toDs xs).any fun z => PyData.eqv z p.toD := by rw [toDs_map, List.any_map]; rfl
        rcases hop with ⟨rfl, rfl⟩ | ⟨rfl, rfl⟩
        · exact SeqAt.in_tuple_reads r2 r1 c1 (fit_lay hz.1) (room_in_shaped hz.1 (units64 hr)) ⟨.bl _, H, I, rfl, by rw [← e]; exact hq⟩
        · exact SeqAt.notIn_tuple_reads r2 r1 c1 (fit_lay hz.1) (room_in_shaped hz.1 (units64 hr)) ⟨.bl _, H, I, rfl, by rw [← e]; exact hq⟩
      · cases hf
    · -- a list
      split at hf
      · rename_i xs exs
        split at hf
        · rename_i hz
          simp only [Bool.and_eq_true] at hz
          cases hf
          obtain ⟨as, r1⟩ := Dp.reads I p.toD x v (hx.dp ep (fit_lay hz.1)) rx
          obtain ⟨a, vs, rfl, hl, rl⟩ := hy.lst exs
          have c1 : PyData.canLayAll0 (PV.toDs xs) = true := by have := fit_lay hz.2; simpa only [PV.toD, PyData.canLay0] using this
          obtain ⟨bs, r2⟩ := Dp.reads I (.list (PV.toDs xs)) (.ref a) u (.lst (SqL.of hl) (Reps.dp rl c1)) ry
          have e : (xs.any fun q => q.eqv p) = (PV.toDs xs).any fun z => PyData.eqv z p.toD := by rw [toDs_map, List.any_map]; rfl
          rcases hop with ⟨rfl, rfl⟩ | ⟨rfl, rfl⟩
          · exact SeqAt.in_list_reads r2 r1 c1 (fit_lay hz.1) (room_in_shaped hz.1 (units64 hr)) ⟨.bl _, H, I, rfl, by rw [← e]; exact hq⟩
          · exact SeqAt.notIn_list_reads r2 r1 c1 (fit_lay hz.1) (room_in_shaped hz.1 (units64 hr)) ⟨.bl _, H, I, rfl, by rw [← e]; exact hq⟩
        · cases hf
      · cases hf
theorem opIn {n : Nat} (hr : Room n X.A) : OpR X (compareOp .In) (rO2 X.K fun x y => bER (cmpO .In x y)) := by
  intro pins s σ H x y v u Qk I rx ry h
  obtain ⟨M, γ, dx, dy, er, hx, hy, hM, hf, hq⟩ := h
  obtain ⟨b, hb, rfl⟩ := bER_some hf
  exact inAny hr (.inl ⟨rfl, rfl⟩) I rx ry hx hy (show inO dx dy = some b from hb) (hq _ _ Ext.refl (Rep.bl _))
theorem opNotIn {n : Nat} (hr : Room n X.A) : OpR X (compareOp .NotIn) (rO2 X.K fun x y => bER (cmpO .NotIn x y)) := by
  intro pins s σ H x y v u Qk I rx ry h
  obtain ⟨M, γ, dx, dy, er, hx, hy, hM, hf, hq⟩ := h
  obtain ⟨b, hb, rfl⟩ := bER_some hf
  have hb : (inO dx dy).map (!·) = some b := hb
  obtain ⟨c, hc, rfl⟩ := Option.map_eq_some_iff.mp hb
  exact inAny hr (.inr ⟨rfl, rfl⟩) I rx ry hx hy hc (hq _ _ Ext.refl (Rep.bl _))
theorem opOrd {n : Nat} (hr : Room n X.A) {op : CmpOp} (hop : op = .Lt ∨ op = .LtE ∨ op = .Gt ∨ op = .GtE) : OpR X (compareOp op) (rO2 X.K fun x y => bER (cmpO op x y)) := by
  intro pins s σ H x y v u Qk I rx ry h
  obtain ⟨M, γ, dx, dy, er, hx, hy, hM, hf, hq⟩ := h
  obtain ⟨b, hb, rfl⟩ := bER_some hf
  have key : (∃ i j, dx = .v (.int i) ∧ dy = .v (.int j) ∧ ltI op i j = some b) ∨ (op = .Lt ∧ ∃ xs ys a c, dx = .v (.tup xs) ∧ dy = .v (.tup ys) ∧ intsOf xs = some a ∧ intsOf ys = some c ∧ b = HT.lexLt a c) := by
    have hb : cmpO op dx dy = some b := hb
    rcases hop with rfl | rfl | rfl | rfl
    all_goals
      unfold cmpO at hb
      dsimp only at hb
      split at hb
      · exact .inl ⟨_, _, rfl, rfl, hb⟩
      · first
          | (cases hb; done)
          | (split at hb
             · rename_i e1 e2
               cases hb
               exact .inr ⟨rfl, _, _, _, _, rfl, rfl, e1, e2, rfl⟩
             · cases hb)
      · cases hb
  rcases key with ⟨i, j, rfl, rfl, e⟩ | ⟨rfl, xs, ys, a, c, rfl, rfl, e1, e2, rfl⟩
  · cases hx; cases hy
    have q := hq _ _ Ext.refl (Rep.bl _)
    rcases hop with rfl | rfl | rfl | rfl
    all_goals simp only [ltI, Option.some.injEq] at e; subst e
    · exact op_lt pins s σ H _ _ v u Qk I rx ry ⟨_, _, rfl, rfl, q⟩
    · exact op_le pins s σ H _ _ v u Qk I rx ry ⟨_, _, rfl, rfl, q⟩
    · exact op_gt pins s σ H _ _ v u Qk I rx ry ⟨_, _, rfl, rfl, q⟩
    · exact op_ge pins s σ H _ _ v u Qk I rx ry ⟨_, _, rfl, rfl, q⟩
  · cases hx with
    | tup h1 n1 r1 =>
      cases hy with
      | tup h2 n2 r2 =>
        have z1 := Reps.intsOf r1 e1
        have z2 := Reps.intsOf r2 e2
        subst z1; subst z2
        exact op_ltT hr.units0 pins s σ H _ _ v u Qk I rx ry ⟨_, _, _, _, rfl, rfl, SqT.of h1, SqT.of h2, hq _ _ Ext.refl (Rep.bl _)⟩
theorem opCmp {n : Nat} (hr : Room n X.A) : ∀ op : CmpOp, OpR X (compareOp op) (rO2 X.K fun x y => bER (cmpO op x y))
  | .Eq => opEq hr
  | .NotEq => opNe hr
  | .Lt => opOrd hr (.inl rfl)
  | .LtE => opOrd hr (.inr (.inl rfl))
  | .Gt => opOrd hr (.inr (.inr (.inl rfl)))
  | .GtE => opOrd hr (.inr (.inr (.inr rfl)))
  | .Is => opIs
  | .IsNot => opIsNot
  | .In => opIn hr
  | .NotIn => opNotIn hr
end
end Q
end
section
set_option maxHeartbeats 1000000
namespace Q
open PySem PySem.Spec PyProof.Rows
open L2 hiding cutV
/-! ### readings -/
def XcR (K : PySem.W.Frag) (mg : Str → Option Value) (H : Hp) (M : Addr → Prop) (γ : Gm) (x : XV) (cls : Value) (d : Option Addr) : Prop :=
  (∃ c, mg x.cls = some (.ref c) ∧ cls = .ref c) ∧ match x.arg with
    | none => d = none
    | some (f, p) => ∃ dd v, d = some dd ∧ H dd = some (.xd [(f, v)]) ∧ Rep K H M γ v p
/-- where one stands: the written part, the module's names, what is wanted of an exception -/
structure Bs where
  K : PySem.W.Frag
  mg : Str → Option Value
  W : WX
def excK (B : Bs) (σ : L2.St) (H : Hp) (γ : Gm) (st : ST) (x : XV) (st' : ST) : Prop := ∀ cls d H' γ', Tr H (Mu γ σ st) γ H' (Mu γ' σ st') γ' → Sim B.K H' γ' σ st' →
  XcR B.K B.mg H' (Mu γ' σ st') γ' x cls d → B.W cls d σ H'
def okK {α β : Type} (B : Bs) (σ : L2.St) (H : Hp) (γ : Gm) (st : ST) (rel : Hp → Gm → ST → β → α → Prop) (Qk : β → Hp → Prop) (a : α) (st' : ST) : Prop := ∀ b H' γ', Tr H (Mu γ σ st) γ H' (Mu γ' σ st') γ' → Sim B.K H' γ' σ st' →
  rel H' γ' st' b a → Qk b H'
theorem excK.trans {B : Bs} {σ : L2.St} {H H1 : Hp} {γ γ1 : Gm} {st st1 st2 : ST} {x : XV} (e : excK B σ H γ st x st2) (t : Tr H (Mu γ σ st) γ H1 (Mu γ1 σ st1) γ1) : excK B σ H1 γ1 st1 x st2 :=
  fun cls d H' γ' T S r => e cls d H' γ' (t.trans T) S r
def relE (K : PySem.W.Frag) (σ : L2.St) (H0 : Hp) : Hp → Gm → ST → V → ER → Prop := fun H' γ' st' v er => ErR K H0 H' γ' σ st' v er
def relB : Hp → Gm → ST → Bool → Bool → Prop := fun _ _ _ b a => b = a
/-- results of several expressions -/
inductive ErRs (K : PySem.W.Frag) (H0 H : Hp) (γ : Gm) (σ : L2.St) (st : ST) : List V → List ER → Prop
  | nil : ErRs K H0 H γ σ st [] []
  | cons {v : V} {vs : List V} {e : ER} {es : List ER} : ErR K H0 H γ σ st v e → ErRs K H0 H γ σ st vs es → ((∃ d, e = ER.own d) → ∀ (k : Nat) (d' : LD), es[k]? = some (ER.own d') → vs[k]? ≠ some v) → ErRs K H0 H γ σ st (v :: vs) (e :: es)
def relL (K : PySem.W.Frag) (σ : L2.St) (H0 : Hp) : Hp → Gm → ST → List V → List ER → Prop := fun H' γ' st' vs es => ErRs K H0 H' γ' σ st' vs es
def tE (B : Bs) (C : Ctx) (m : E) : TE := fun σ H Qk => ∃ γ st, Sim B.K H γ σ st ∧ (ev C m st).wp (okK B σ H γ st (relE B.K σ H) Qk) (excK B σ H γ st)
def tL (B : Bs) (C : Ctx) (m : EL) : TA := fun σ H Qk => ∃ γ st, Sim B.K H γ σ st ∧ (evL C m st).wp (okK B σ H γ st (relL B.K σ H) Qk) (excK B σ H γ st)
def tT (B : Bs) (C : Ctx) (m : T) : TT := fun σ H Qk => ∃ γ st, Sim B.K H γ σ st ∧ (tst C m st).wp (okK B σ H γ st relB Qk) (excK B σ H γ st)
theorem _root_.L2.PE.mono {X : Cx} {e : Expr} {t t' : TE} (h : PE X e t) (imp : ∀ σ H Qk, t' σ H Qk → t σ H Qk) : PE X e t' := ⟨fun pins s σ H Qk I q => h.run pins s σ H Qk I (imp σ H Qk q)⟩
theorem _root_.L2.PT.mono {X : Cx} {e : Expr} {t t' : TT} (h : PT X e t) (imp : ∀ σ H Qk, t' σ H Qk → t σ H Qk) : PT X e t' := ⟨fun pins s σ H Qk I q => h.run pins s σ H Qk I (imp σ H Qk q)⟩
theorem _root_.L2.PW.mono {X : Cx} {e : Expr} {t t' : TT} (h : PW X e t) (imp : ∀ σ H Qk, t' σ H Qk → t σ H Qk) : PW X e t' := ⟨fun w pins s σ H Qk I q => h.run w pins s σ H Qk I (imp σ H Qk q)⟩
theorem _root_.L2.PA.mono {X : Cx} {e : List Expr} {t t' : TA} (h : PA X e t) (imp : ∀ σ H Qk, t' σ H Qk → t σ H Qk) : PA X e t' := ⟨fun p pins s σ H Qk I q => h.run p pins s σ H Qk I (imp σ H Qk q)⟩
section
variable {K : PySem.W.Frag} {H0 H H' : Hp} {γ γ' : Gm} {σ : L2.St} {st st' : ST} {v : V}
/-- a new object is held -/
theorem Sim.hold (S : Sim K H γ σ st) {a : Addr} (hE : Ext H H') (ha : H a = none) (hs : ∃ o, H' a = some o) : Sim K H' (γ.add a) σ st ∧ Tr H (Mu γ σ st) γ H' (Mu (γ.add a) σ st) (γ.add a) := by
  have T : Tr H (Mu γ σ st) γ H' (Mu (γ.add a) σ st) (γ.add a) := by
    have T := Tr.ext (γ := γ) (M := Mu γ σ st) hE
    refine ⟨T.keep, fun b m => .tail _ m, T.dom, fun b m => ?_, ⟨[], by simp [Gm.add]⟩⟩
    rcases m with (m | m) | m
    · exact .inl (.inl (.inl m))
    · rcases List.mem_cons.mp m with rfl | m
      · exact .inr ha
      · exact .inl (.inl (.inr m))
    · exact .inl (.inr m)
  refine ⟨⟨S.len, fun i s e => ?_, S.inj, fun b m => ?_, fun i d b e q m => ?_, S.g0⟩, T⟩
  · obtain ⟨v, e1, r⟩ := S.sv i s e
    refine ⟨v, e1, ?_⟩
    cases s with
    | v p => exact Rep.tr T r
    | own d =>
      obtain ⟨b, e2, r⟩ := r
      exact ⟨b, e2, r.tr' T fun o q => hE b o q⟩
  · rcases m with m | m
    · obtain ⟨o, e⟩ := S.gl b (.inl m)
      exact ⟨o, hE b o e⟩
    · rcases List.mem_cons.mp m with rfl | m
      · exact hs
      · obtain ⟨o, e⟩ := S.gl b (.inr m)
        exact ⟨o, hE b o e⟩
  · rcases m with m | m
    · exact S.sep i d b e q (.inl m)
    · rcases List.mem_cons.mp m with rfl | m
      · obtain ⟨u, hu, r⟩ := S.sv i _ e
        rw [q] at hu; cases hu
        obtain ⟨c, ec, r⟩ := r
        cases ec
        obtain ⟨o, z⟩ := r.some
        rw [ha] at z; cases z
      · exact S.sep i d b e q (.inr m)
/-- a result of an operation -/
theorem fin {M0 : Addr → Prop} {γ0 : Gm} (T0 : Tr H0 M0 γ0 H (Mu γ σ st) γ) (S : Sim K H γ σ st) (hE : Ext H H') {er : ER} (r : ResR K H H' (Mu γ σ st) γ v er) :
    ∃ γ', Tr H0 M0 γ0 H' (Mu γ' σ st) γ' ∧ Sim K H' γ' σ st ∧ ErR K H0 H' γ' σ st v er := by
  cases er with
  | v p => exact ⟨γ, T0.trans (Tr.ext hE), S.ext hE, r⟩
  | own d =>
    obtain ⟨a, h1, h2, h3⟩ := r
    obtain ⟨S', T⟩ := S.hold hE h2 (h3 _ fun b m => .inl m).some
    refine ⟨γ.add a, T0.trans T, S', a, h1, T0.dom a h2, .head _, OwnR.gam (γ := γ) (γ' := γ.add a) (M := Mu (γ.add a) σ st) rfl (h3 _ fun b m => ?_)⟩
    rcases m with (m | m) | m
    · exact .inl (.inl (.inl m))
    · rcases List.mem_cons.mp m with rfl | m
      · exact .inr rfl
      · exact .inl (.inl (.inr m))
    · exact .inl (.inr m)
  | slot i => exact r.elim
theorem ErRs.tr (t : Tr H (Mu γ σ st) γ H' (Mu γ' σ st') γ') {vs : List V} {es : List ER} (r : ErRs K H0 H γ σ st vs es) : ErRs K H0 H' γ' σ st' vs es := by
  induction r with
  | nil => exact .nil
  | cons a b h ih => exact .cons (a.tr t) ih h
theorem ErRs.old {H00 : Hp} (h : ∀ a, H0 a = none → H00 a = none) {vs : List V} {es : List ER} (r : ErRs K H0 H γ σ st vs es) : ErRs K H00 H γ σ st vs es := by
  induction r with
  | nil => exact .nil
  | cons a b h' ih => exact .cons (a.old h) ih h'
theorem ErRs.own : ∀ {vs : List V} {es : List ER} {k : Nat} {d : LD}, ErRs K H0 H γ σ st vs es → es[k]? = some (.own d) → ∃ a, vs[k]? = some (.ref a) ∧ H0 a = none ∧ a ∈ γ.lock ∧ OwnR K H (Mu γ σ st) γ a d
  | _, _, _, _, .nil, e => by simp at e
  | _, _, 0, d, .cons r _ _, e => by
    simp at e
    subst e
    obtain ⟨a, h1, h2, h3, h4⟩ := r
    exact ⟨a, by rw [h1]; rfl, h2, h3, h4⟩
  | _, _, k + 1, d, .cons _ rs _, e => by
    obtain ⟨a, h1, h⟩ := ErRs.own (k := k) (d := d) rs (by simpa using e)
    exact ⟨a, by simpa using h1, h⟩
theorem ErRs.get : ∀ {vs : List V} {es : List ER} {k : Nat} {e : ER}, ErRs K H0 H γ σ st vs es → es[k]? = some e → ∃ v, vs[k]? = some v ∧ ErR K H0 H γ σ st v e
  | _, _, _, _, .nil, e => by simp at e
  | _, _, 0, d, .cons r _ _, e => by
    simp at e
    subst e
    exact ⟨_, rfl, r⟩
  | _, _, k + 1, d, .cons _ rs _, e => by
    obtain ⟨a, h1, h⟩ := ErRs.get (k := k) (e := d) rs (by simpa using e)
    exact ⟨a, by simpa using h1, h⟩
theorem ErRs.len : ∀ {vs : List V} {es : List ER}, ErRs K H0 H γ σ st vs es → vs.length = es.length
  | _, _, .nil => rfl
  | _, _, .cons _ rs _ => by rw [List.length_cons, List.length_cons, ErRs.len rs]
/-- two new lists lie apart -/
theorem ErRs.apart : ∀ {vs : List V} {es : List ER} {j k : Nat} {d d' : LD} {v : V}, ErRs K H0 H γ σ st vs es → es[j]? = some (.own d) → es[k]? = some (.own d') → vs[j]? = some v → vs[k]? = some v → j = k
  | _, _, _, _, _, _, _, .nil, e, _, _, _ => by simp at e
  | _, _, 0, 0, _, _, _, .cons _ _ _, _, _, _, _ => rfl
  | _, _, 0, k + 1, d, d', v, .cons r rs h, e1, e2, q1, q2 => by
    simp at e1 q1
    subst e1 q1
    exact absurd (by simpa using q2) (h ⟨d, rfl⟩ k d' (by simpa using e2))
  | _, _, j + 1, 0, d, d', v, .cons r rs h, e1, e2, q1, q2 => by
    simp at e2 q2
    subst e2 q2
    exact absurd (by simpa using q1) (h ⟨d', rfl⟩ j d (by simpa using e1))
  | _, _, j + 1, k + 1, d, d', v, .cons r rs h, e1, e2, q1, q2 => by
    rw [ErRs.apart (j := j) (k := k) rs (by simpa using e1) (by simpa using e2) (by simpa using q1) (by simpa using q2)]
theorem Sim.mu0 (S : Sim K H γ σ st) : ∀ a, Mu γ σ st a → H a ≠ none := fun a m e => by
  obtain ⟨o, h⟩ := S.muSome m
  rw [e] at h; cases h
end
/-! ### expressions -/
section
variable {X : Cx} {B : Bs} {C : Ctx} {a b d : Expr} {ma mb md : E} {pos : Pos}
/-- a binary operation of values -/
theorem s_op2 {f : DV → DV → Option ER} {r : R2} {e : Expr} {m : E} (hB : B.K = X.K) (hm : ∀ st, ev C m st = (ev C ma st).bind fun x st => (ev C mb st).bind fun y st => lift (f (x.get st) (y.get st)) st)
    (hr : ∀ x y H Qk, rO2 X.K f x y H Qk → r x y H Qk) (h : PE X e (tOp r (tE B C ma) (tE B C mb))) : PE X e (tE B C m) := by
  refine h.mono fun σ H Qk ⟨γ, st, S, h⟩ => ?_
  rw [hm] at h
  simp only [wp_bind] at h
  refine ⟨γ, st, S, wp_mono h (fun x st1 h v1 H1 γ1 T1 S1 R1 => ?_) fun _ _ e => e⟩
  refine ⟨γ1, st1, S1, wp_mono h (fun y st2 h v2 H2 γ2 T2 S2 R2 => hr _ _ _ _ ?_) fun _ _ e => e.trans T1⟩
  cases hb : f (x.get st2) (y.get st2) with
  | none => rw [hb] at h; exact h.elim
  | some er =>
    rw [hb] at h
    have R1' : ErR B.K H H2 γ2 σ st2 v1 x := ErR.tr T2 R1
    have R2' : ErR B.K H1 H2 γ2 σ st2 v2 y := R2
    refine ⟨Mu γ2 σ st2, γ2, _, _, er, hB ▸ R1'.dv S2, hB ▸ R2'.dv S2, S2.mu0, hb, fun v H3 E3 R3 => ?_⟩
    rw [← hB] at R3
    obtain ⟨γ3, T3, S3, R⟩ := fin (T1.trans T2) S2 E3 R3
    exact h v H3 γ3 T3 S3 R
theorem s_bin {op : Operator} (hB : B.K = X.K) (ho : op = .Add ∨ op = .Sub ∨ op = .Mult ∨ op = .FloorDiv ∨ op = .Mod ∨ op = .Pow ∨ op = .LShift ∨ op = .RShift ∨ op = .BitAnd) (ha : PE X a (tE B C ma)) (hb : PE X b (tE B C mb)) :
    PE X (.BinOp a op b pos) (tE B C (.bin op ma mb)) :=
  s_op2 (f := binO op) hB (fun st => by rw [ev]) (fun _ _ _ _ h => h) (pe_op (opBin ho) ha hb)
theorem s_cmp {n : Nat} {op : CmpOp} (hB : B.K = X.K) (hr : Room n X.A) (ha : PE X a (tE B C ma)) (hb : PE X b (tE B C mb)) (hm : behindInMarks op b = false) : PE X (.Compare a [op] [b] pos) (tE B C (.cmp op ma mb)) := by
  refine s_op2 (f := fun x y => bER (cmpO op x y)) hB (fun st => ?_) (fun _ _ _ _ h => h) (pe_cmpR (opCmp hr op) ha hb hm)
  rw [ev]
  refine congrArg _ (funext fun x => funext fun st => congrArg _ (funext fun y => funext fun st => ?_))
  cases cmpO op (x.get st) (y.get st) <;> rfl
theorem s_c {p : PV} {v : V} {e : Expr} (h : PE X e (tC v)) (r : ∀ H M γ, Rep B.K H M γ v p) : PE X e (tE B C (.c p)) := by
  refine h.mono fun σ H Qk ⟨γ, st, S, h⟩ => ?_
  rw [ev] at h
  exact h v H γ Tr.refl S (r _ _ _)
theorem s_gc {x : Str} {p : PV} {v : V} {e : Expr} (h : PE X e (tC v)) (r : ∀ H M γ, Rep B.K H M γ v p) : PE X e (tE B C (.gc x p)) := by
  refine h.mono fun σ H Qk ⟨γ, st, S, h⟩ => ?_
  rw [ev] at h
  exact h v H γ Tr.refl S (r _ _ _)
theorem s_var {i : Nat} {e : Expr} (h : PE X e (tVar i)) : PE X e (tE B C (.var i)) := by
  refine h.mono fun σ H Qk ⟨γ, st, S, h⟩ => ?_
  rw [ev] at h
  cases q : envAt st i with
  | none => rw [q] at h; exact h.elim
  | some s =>
    rw [q] at h
    obtain ⟨v, e, r⟩ := S.sv i s q
    refine ⟨v, e, ?_⟩
    cases s with
    | v p => exact h v H γ Tr.refl S r
    | own d => exact h v H γ Tr.refl S e
theorem s_neg (hB : B.K = X.K) (ha : PE X a (tE B C ma)) : PE X (.UnaryOp .USub a pos) (tE B C (.neg ma)) := by
  refine (pe_un un_neg ha).mono fun σ H Qk ⟨γ, st, S, h⟩ => ?_
  rw [ev, wp_bind] at h
  refine ⟨γ, st, S, wp_mono h (fun x st1 h v1 H1 γ1 T1 S1 R1 => ?_) fun _ _ e => e⟩
  have R : ErR B.K H H1 γ1 σ st1 v1 x := R1
  have D := R.dv S1
  split at h
  · rename_i i q
    rw [q] at D
    cases D
    exact ⟨i, rfl, h _ H1 γ1 T1 S1 (Rep.int _)⟩
  · exact h.elim
end
end Q
end
section
set_option maxHeartbeats 1000000
namespace Q
open PySem PySem.Spec PyProof.Rows
open L2 hiding cutV
section
variable {X : Cx} {B : Bs} {C : Ctx} {a b d : Expr} {ma mb md : E} {pos : Pos} {rest : List Expr}
theorem bER_of {o : Option Bool} {k : Bool} (h : o = some k) : bER o = some (.v (.bl k)) := by
  rw [h]; rfl
theorem dv_truth {H : Hp} {M : Addr → Prop} {γ : Gm} {v : V} {dv : DV} {k : Bool} (r : DvR X.K H M γ v dv) (h : truthy dv = some k) : TruV X.K v H k := by
  unfold truthy at h
  split at h
  · cases h; cases r; rfl
  · cases h; cases r; rfl
  · cases h; cases r; rfl
  · split at h
    · rename_i hz
      cases h; cases r
      exact ⟨by rw [sizeL]; exact hz, rfl⟩
    · cases h
  · cases h
    cases r with
    | tup h n r =>
      refine .inr (.inl ⟨_, SqT.of h, ?_⟩)
      cases r <;> rfl
  · cases h
    cases r with
    | lst h n r =>
      refine .inl ⟨_, SqL.of h, ?_⟩
      cases r <;> rfl
  · cases h
    obtain ⟨a, rfl, vs, h, r⟩ := r
    refine .inl ⟨_, SqL.of h, ?_⟩
    cases r <;> rfl
  · cases h
theorem s_not (hB : B.K = X.K) (ha : PE X a (tE B C ma)) : PE X (.UnaryOp .Not a pos) (tE B C (.not ma)) := by
  refine (pe_notT ha).mono fun σ H Qk ⟨γ, st, S, h⟩ => ?_
  rw [ev, wp_bind] at h
  refine ⟨γ, st, S, wp_mono h (fun x st1 h v1 H1 γ1 T1 S1 R1 => ?_) fun _ _ e => e⟩
  have D := ErR.dv S1 R1
  cases q : truthy (x.get st1) with
  | none => rw [q] at h; exact h.elim
  | some k =>
    rw [q] at h
    exact ⟨k, dv_truth (hB ▸ D) q, h _ H1 γ1 T1 S1 (Rep.bl _)⟩
theorem asBool_some {x : ER} {st : ST} {k : Bool} (h : asBool x st = some k) : x.get st = .v (.bl k) := by
  unfold asBool at h
  split at h
  · cases h; assumption
  · cases h
theorem s_and (ha : PE X a (tE B C ma)) (hb : PE X (.BoolOp .And (b :: rest) pos) (tE B C mb)) : PE X (.BoolOp .And (a :: b :: rest) pos) (tE B C (.and ma mb)) := by
  refine (pe_and ha hb).mono fun σ H Qk ⟨γ, st, S, h⟩ => ?_
  rw [ev, wp_bind] at h
  refine ⟨γ, st, S, wp_mono h (fun x st1 h v1 H1 γ1 T1 S1 R1 => ?_) fun _ _ e => e⟩
  have D := ErR.dv S1 R1
  cases q : asBool x st1 with
  | none => rw [q] at h; exact h.elim
  | some k =>
    rw [q] at h
    rw [asBool_some q] at D
    cases D
    refine ⟨k, rfl, ?_⟩
    cases k with
    | true =>
      refine L2.iteT ?_
      exact ⟨γ1, st1, S1, wp_mono h (fun y st2 h v2 H2 γ2 T2 S2 R2 => h v2 H2 γ2 (T1.trans T2) S2 (ErR.old T1.dom R2)) fun _ _ e => e.trans T1⟩
    | false =>
      refine L2.iteF ?_
      exact h _ H1 γ1 T1 S1 (Rep.bl _)
theorem s_or (ha : PE X a (tE B C ma)) (hb : PE X (.BoolOp .Or (b :: rest) pos) (tE B C mb)) : PE X (.BoolOp .Or (a :: b :: rest) pos) (tE B C (.or ma mb)) := by
  refine (pe_or ha hb).mono fun σ H Qk ⟨γ, st, S, h⟩ => ?_
  rw [ev, wp_bind] at h
  refine ⟨γ, st, S, wp_mono h (fun x st1 h v1 H1 γ1 T1 S1 R1 => ?_) fun _ _ e => e⟩
  have D := ErR.dv S1 R1
  cases q : asBool x st1 with
  | none => rw [q] at h; exact h.elim
  | some k =>
    rw [q] at h
    rw [asBool_some q] at D
    cases D
    refine ⟨k, rfl, ?_⟩
    cases k with
    | false =>
      refine L2.iteF ?_
      exact ⟨γ1, st1, S1, wp_mono h (fun y st2 h v2 H2 γ2 T2 S2 R2 => h v2 H2 γ2 (T1.trans T2) S2 (ErR.old T1.dom R2)) fun _ _ e => e.trans T1⟩
    | true =>
      refine L2.iteT ?_
      exact h _ H1 γ1 T1 S1 (Rep.bl _)
theorem s_chain {n : Nat} {o1 o2 : CmpOp} (hB : B.K = X.K) (hr : Room n X.A) (ha : PE X a (tE B C ma)) (hb : PE X b (tE B C mb)) (hd : PE X d (tE B C md)) (hm : lastMarks [o1, o2] [b, d] = false) :
    PE X (.Compare a [o1, o2] [b, d] pos) (tE B C (.chain o1 o2 ma mb md)) := by
  refine (pe_chain (opCmp hr o1) (opCmp hr o2) ha hb hd hm).mono fun σ H Qk ⟨γ, st, S, h⟩ => ?_
  rw [ev, wp_bind] at h
  refine ⟨γ, st, S, wp_mono h (fun x st1 h v1 H1 γ1 T1 S1 R1 => ?_) fun _ _ e => e⟩
  rw [wp_bind] at h
  refine ⟨γ1, st1, S1, wp_mono h (fun y st2 h v2 H2 γ2 T2 S2 R2 => ?_) fun _ _ e => e.trans T1⟩
  cases q : cmpO o1 (x.get st2) (y.get st2) with
  | none => rw [q] at h; exact h.elim
  | some k =>
    rw [q] at h
    have R1' : ErR B.K H H2 γ2 σ st2 v1 x := ErR.tr T2 R1
    have R2' : ErR B.K H1 H2 γ2 σ st2 v2 y := R2
    refine ⟨Mu γ2 σ st2, γ2, _, _, .v (.bl k), hB ▸ R1'.dv S2, hB ▸ R2'.dv S2, S2.mu0, bER_of q, fun z H3 E3 R3 => ?_⟩
    have R3 : Rep X.K H3 (Mu γ2 σ st2) γ2 z (.bl k) := R3
    cases R3
    refine ⟨k, rfl, ?_⟩
    cases k with
    | false =>
      refine L2.iteF ?_
      exact h _ H3 γ2 (T1.trans (T2.trans (Tr.ext E3))) (S2.ext E3) (Rep.bl _)
    | true =>
      refine L2.iteT ?_
      simp only [lift_some, bind_ok, if_true, wp_bind] at h
      refine ⟨γ2, st2, S2.ext E3, wp_mono h (fun z st3 h v4 H4 γ4 T4 S4 R4 => ?_) fun _ _ e => (e.trans T1).trans (T2.trans (Tr.ext E3))⟩
      cases q2 : cmpO o2 (y.get st3) (z.get st3) with
      | none => rw [q2] at h; exact h.elim
      | some k2 =>
        rw [q2] at h
        have R2'' : ErR B.K H1 H4 γ4 σ st3 v2 y := ErR.tr ((Tr.ext E3).trans T4) R2'
        have R4' : ErR B.K H3 H4 γ4 σ st3 v4 z := R4
        refine ⟨Mu γ4 σ st3, γ4, _, _, .v (.bl k2), hB ▸ R2''.dv S4, hB ▸ R4'.dv S4, S4.mu0, bER_of q2, fun w H5 E5 R5 => ?_⟩
        have R5 : Rep X.K H5 (Mu γ4 σ st3) γ4 w (.bl k2) := R5
        cases R5
        exact h _ H5 γ4 (T1.trans (T2.trans ((Tr.ext E3).trans (T4.trans (Tr.ext E5))))) (S4.ext E5) (Rep.bl _)
theorem s_ifx {t : Expr} {mt : T} (ht : PT X t (tT B C mt)) (ha : PE X a (tE B C ma)) (hb : PE X b (tE B C mb)) : PE X (.IfExp t a b pos) (tE B C (.ifx mt ma mb)) := by
  refine (pe_ifExp ht ha hb).mono fun σ H Qk ⟨γ, st, S, h⟩ => ?_
  rw [ev, wp_bind] at h
  refine ⟨γ, st, S, wp_mono h (fun x st1 h k H1 γ1 T1 S1 R1 => ?_) fun _ _ e => e⟩
  have R1 : k = x := R1
  subst R1
  cases k with
  | true =>
    refine L2.iteT ?_
    exact ⟨γ1, st1, S1, wp_mono h (fun y st2 h v2 H2 γ2 T2 S2 R2 => h v2 H2 γ2 (T1.trans T2) S2 (ErR.old T1.dom R2)) fun _ _ e => e.trans T1⟩
  | false =>
    refine L2.iteF ?_
    exact ⟨γ1, st1, S1, wp_mono h (fun y st2 h v2 H2 γ2 T2 S2 R2 => h v2 H2 γ2 (T1.trans T2) S2 (ErR.old T1.dom R2)) fun _ _ e => e.trans T1⟩
/-! tests -/
theorem s_te (hB : B.K = X.K) (ha : PE X a (tE B C ma)) (he : ∀ whole, isTrue a X.env whole = (do let v ← whole; standAt a.pos; holding [v] (PySem.truthy v))) : PT X a (tT B C (.e ma)) := by
  refine (pt_truth ha he).mono fun σ H Qk ⟨γ, st, S, h⟩ => ?_
  rw [tst, wp_bind] at h
  refine ⟨γ, st, S, wp_mono h (fun x st1 h v1 H1 γ1 T1 S1 R1 => ?_) fun _ _ e => e⟩
  have D := ErR.dv S1 R1
  cases q : truthy (x.get st1) with
  | none => rw [q] at h; exact h.elim
  | some k =>
    rw [q] at h
    exact ⟨k, dv_truth (hB ▸ D) q, h _ H1 γ1 T1 S1 rfl⟩
theorem s_tcmp {n : Nat} {op : CmpOp} (hB : B.K = X.K) (hr : Room n X.A) (ha : PE X a (tE B C ma)) (hb : PE X b (tE B C mb)) (hm : behindInMarks op b = false) : PT X (.Compare a [op] [b] pos) (tT B C (.e (.cmp op ma mb))) := by
  refine (pt_cmpR (opCmp hr op) ha hb hm).mono fun σ H Qk ⟨γ, st, S, h⟩ => ?_
  rw [tst, ev, wp_bind, wp_bind] at h
  refine ⟨γ, st, S, wp_mono h (fun x st1 h v1 H1 γ1 T1 S1 R1 => ?_) fun _ _ e => e⟩
  rw [wp_bind] at h
  refine ⟨γ1, st1, S1, wp_mono h (fun y st2 h v2 H2 γ2 T2 S2 R2 => ?_) fun _ _ e => e.trans T1⟩
  cases q : cmpO op (x.get st2) (y.get st2) with
  | none => rw [q] at h; exact h.elim
  | some k =>
    rw [q] at h
    have R1' : ErR B.K H H2 γ2 σ st2 v1 x := ErR.tr T2 R1
    have R2' : ErR B.K H1 H2 γ2 σ st2 v2 y := R2
    refine ⟨Mu γ2 σ st2, γ2, _, _, .v (.bl k), hB ▸ R1'.dv S2, hB ▸ R2'.dv S2, S2.mu0, bER_of q, fun z H3 E3 R3 => ?_⟩
    have R3 : Rep X.K H3 (Mu γ2 σ st2) γ2 z (.bl k) := R3
    cases R3
    exact ⟨k, rfl, h _ H3 γ2 (T1.trans (T2.trans (Tr.ext E3))) (S2.ext E3) rfl⟩
theorem s_tchain {n : Nat} {o1 o2 : CmpOp} (hB : B.K = X.K) (hr : Room n X.A) (ha : PE X a (tE B C ma)) (hb : PE X b (tE B C mb)) (hd : PE X d (tE B C md)) (hm : lastMarks [o1, o2] [b, d] = false) :
    PT X (.Compare a [o1, o2] [b, d] pos) (tT B C (.e (.chain o1 o2 ma mb md))) := by
  refine (pt_chain (opCmp hr o1) (opCmp hr o2) ha hb hd hm).mono fun σ H Qk ⟨γ, st, S, h⟩ => ?_
  rw [tst, ev, wp_bind, wp_bind] at h
  refine ⟨γ, st, S, wp_mono h (fun x st1 h v1 H1 γ1 T1 S1 R1 => ?_) fun _ _ e => e⟩
  rw [wp_bind] at h
  refine ⟨γ1, st1, S1, wp_mono h (fun y st2 h v2 H2 γ2 T2 S2 R2 => ?_) fun _ _ e => e.trans T1⟩
  cases q : cmpO o1 (x.get st2) (y.get st2) with
  | none => rw [q] at h; exact h.elim
  | some k =>
    rw [q] at h
    have R1' : ErR B.K H H2 γ2 σ st2 v1 x := ErR.tr T2 R1
    have R2' : ErR B.K H1 H2 γ2 σ st2 v2 y := R2
    refine ⟨Mu γ2 σ st2, γ2, _, _, .v (.bl k), hB ▸ R1'.dv S2, hB ▸ R2'.dv S2, S2.mu0, bER_of q, fun z H3 E3 R3 => ?_⟩
    have R3 : Rep X.K H3 (Mu γ2 σ st2) γ2 z (.bl k) := R3
    cases R3
    refine ⟨k, rfl, ?_⟩
    cases k with
    | false =>
      refine L2.iteF ?_
      exact ⟨false, rfl, h _ H3 γ2 (T1.trans (T2.trans (Tr.ext E3))) (S2.ext E3) rfl⟩
    | true =>
      refine L2.iteT ?_
      simp only [lift_some, bind_ok, if_true, wp_bind] at h
      refine ⟨γ2, st2, S2.ext E3, wp_mono h (fun z st3 h v4 H4 γ4 T4 S4 R4 => ?_) fun _ _ e => (e.trans T1).trans (T2.trans (Tr.ext E3))⟩
      cases q2 : cmpO o2 (y.get st3) (z.get st3) with
      | none => rw [q2] at h; exact h.elim
      | some k2 =>
        rw [q2] at h
        have R2'' : ErR B.K H1 H4 γ4 σ st3 v2 y := ErR.tr ((Tr.ext E3).trans T4) R2'
        have R4' : ErR B.K H3 H4 γ4 σ st3 v4 z := R4
        refine ⟨Mu γ4 σ st3, γ4, _, _, .v (.bl k2), hB ▸ R2''.dv S4, hB ▸ R4'.dv S4, S4.mu0, bER_of q2, fun w H5 E5 R5 => ?_⟩
        have R5 : Rep X.K H5 (Mu γ4 σ st3) γ4 w (.bl k2) := R5
        cases R5
        exact ⟨k2, rfl, h _ H5 γ4 (T1.trans (T2.trans ((Tr.ext E3).trans (T4.trans (Tr.ext E5))))) (S4.ext E5) rfl⟩
theorem s_tnot {m : T} (h : PT X a (tT B C m)) : PT X (.UnaryOp .Not a pos) (tT B C (.not m)) := by
  refine (pt_not h).mono fun σ H Qk ⟨γ, st, S, h⟩ => ?_
  rw [tst, wp_bind] at h
  refine ⟨γ, st, S, wp_mono h (fun x st1 h k H1 γ1 T1 S1 R1 => ?_) fun _ _ e => e⟩
  have R1 : k = x := R1
  subst R1
  exact h _ H1 γ1 T1 S1 rfl
theorem s_tand {m1 m2 : T} (ha : PT X a (tT B C m1)) (hb : PW X (.BoolOp .And (b :: rest) pos) (tT B C m2)) : PW X (.BoolOp .And (a :: b :: rest) pos) (tT B C (.and m1 m2)) := by
  refine (pw_and ha hb).mono fun σ H Qk ⟨γ, st, S, h⟩ => ?_
  rw [tst, wp_bind] at h
  refine ⟨γ, st, S, wp_mono h (fun x st1 h k H1 γ1 T1 S1 R1 => ?_) fun _ _ e => e⟩
  have R1 : k = x := R1
  subst R1
  cases k with
  | true =>
    refine L2.iteT ?_
    exact ⟨γ1, st1, S1, wp_mono h (fun y st2 h v2 H2 γ2 T2 S2 R2 => h v2 H2 γ2 (T1.trans T2) S2 R2) fun _ _ e => e.trans T1⟩
  | false =>
    refine L2.iteF ?_
    exact h _ H1 γ1 T1 S1 rfl
theorem s_tor {m1 m2 : T} (ha : PT X a (tT B C m1)) (hb : PW X (.BoolOp .Or (b :: rest) pos) (tT B C m2)) : PW X (.BoolOp .Or (a :: b :: rest) pos) (tT B C (.or m1 m2)) := by
  refine (pw_or ha hb).mono fun σ H Qk ⟨γ, st, S, h⟩ => ?_
  rw [tst, wp_bind] at h
  refine ⟨γ, st, S, wp_mono h (fun x st1 h k H1 γ1 T1 S1 R1 => ?_) fun _ _ e => e⟩
  have R1 : k = x := R1
  subst R1
  cases k with
  | false =>
    refine L2.iteF ?_
    exact ⟨γ1, st1, S1, wp_mono h (fun y st2 h v2 H2 γ2 T2 S2 R2 => h v2 H2 γ2 (T1.trans T2) S2 R2) fun _ _ e => e.trans T1⟩
  | true =>
    refine L2.iteT ?_
    exact h _ H1 γ1 T1 S1 rfl
end
end Q
end
section
set_option maxHeartbeats 1000000
namespace Q
open PySem PySem.Spec PyProof.Rows
open L2 hiding cutV
theorem join_some {α : Type} {o : Option (Option α)} {a : α} (h : o.join = some a) : o = some (some a) := by
  cases o with
  | none => cases h
  | some x => cases x with
    | none => cases h
    | some y => cases h; rfl
theorem envAt_lt {st : ST} {i : Nat} {s : SV} (h : envAt st i = some s) : i < st.env.length := by
  have := join_some h
  exact (List.getElem?_eq_some_iff.mp this).1
theorem envAt_same {st : ST} {i : Nat} {s : Option SV} (h : i < st.env.length) : envAt (st.put i s) i = s := by
  unfold envAt ST.put
  simp [h]
theorem envAt_other {st : ST} {i j : Nat} {s : Option SV} (h : j ≠ i) : envAt (st.put i s) j = envAt st j := by
  unfold envAt ST.put
  dsimp only
  rw [List.getElem?_set_ne (Ne.symm h)]
theorem envAt_out {st : ST} {i : Nat} {s : Option SV} (h : ¬ i < st.env.length) : envAt (st.put i s) i = none := by
  unfold envAt ST.put
  dsimp only
  rw [List.getElem?_eq_none (by simpa using h)]
  rfl
theorem put_len {st : ST} {i : Nat} {s : Option SV} : (st.put i s).env.length = st.env.length := by simp [ST.put]
theorem put_g {st : ST} {i : Nat} {s : Option SV} : (st.put i s).g = st.g := rfl
section
variable {K : PySem.W.Frag} {H0 H H' : Hp} {γ γ' : Gm} {σ : L2.St} {st st' : ST} {v : V}
/-- a slot's list is a value from here on -/
theorem Sim.freeze (S : Sim K H γ σ st) {i : Nat} {xs : List PV} (h : envAt st i = some (.own (.lst xs))) :
    Sim K H γ σ (st.put i (some (.v (.lst xs)))) ∧ Tr H (Mu γ σ st) γ H (Mu γ σ (st.put i (some (.v (.lst xs))))) γ := by
  have hi := envAt_lt h
  have back : ∀ j s, envAt (st.put i (some (.v (.lst xs)))) j = some s → (j = i ∧ s = .v (.lst xs)) ∨ (j ≠ i ∧ envAt st j = some s) := fun j s e => by
    by_cases hj : j = i
    · subst hj
      rw [envAt_same hi] at e
      cases e
      exact .inl ⟨rfl, rfl⟩
    · rw [envAt_other hj] at e
      exact .inr ⟨hj, e⟩
  have sub : ∀ a, Mu γ σ (st.put i (some (.v (.lst xs)))) a → Mu γ σ st a := fun a m => by
    rcases m with m | ⟨j, d, e, q⟩
    · exact .inl m
    · rcases back j _ e with ⟨_, z⟩ | ⟨_, z⟩
      · cases z
      · exact .inr ⟨j, d, z, q⟩
  have T : Tr H (Mu γ σ st) γ H (Mu γ σ (st.put i (some (.v (.lst xs))))) γ := ⟨fun _ _ e _ => e, fun _ e => e, fun _ e => e, fun a m => .inl (sub a m), ⟨[], by simp⟩⟩
  refine ⟨⟨by rw [put_len]; exact S.len, fun j s e => ?_, fun j k d s a e1 e2 q1 q2 => ?_, S.gl, fun j d a e q => ?_, S.g0⟩, T⟩
  · rcases back j s e with ⟨rfl, rfl⟩ | ⟨hj, z⟩
    · obtain ⟨u, hu, a, rfl, vs, ha, r⟩ := S.sv j _ h
      refine ⟨_, hu, Rep.lst ha (fun m => ?_) (Reps.tr T r)⟩
      rcases m with m | ⟨k, d, e1, q⟩
      · exact S.sep j _ a h hu m
      · rcases back k _ e1 with ⟨_, z⟩ | ⟨hk, z⟩
        · cases z
        · exact hk (S.inj k j d _ a z h q hu)
    · obtain ⟨u, hu, r⟩ := S.sv j s z
      refine ⟨u, hu, ?_⟩
      cases s with
      | v p => exact Rep.tr T r
      | own d =>
        obtain ⟨a, e1, r⟩ := r
        exact ⟨a, e1, r.tr' T fun _ e => e⟩
  · rcases back j _ e1 with ⟨_, z⟩ | ⟨hj, z1⟩
    · cases z
    · rcases back k _ e2 with ⟨_, z⟩ | ⟨hk, z2⟩
      · cases z
      · exact S.inj j k d s a z1 z2 q1 q2
  · rcases back j _ e with ⟨_, z⟩ | ⟨hj, z⟩
    · cases z
    · exact S.sep j d a z q
theorem frzU (S : Sim K H γ σ st) {e : ER} {p : PV} (h : e.frz st = some (p, st')) (r : ErU K H γ σ st v e) :
    Sim K H γ σ st' ∧ Tr H (Mu γ σ st) γ H (Mu γ σ st') γ ∧ Rep K H (Mu γ σ st') γ v p := by
  unfold ER.frz at h
  split at h
  · cases h; exact ⟨S, Tr.refl, r⟩
  · cases h
    obtain ⟨a, rfl, n, vs, ha, rs⟩ := r
    exact ⟨S, Tr.refl, Rep.lst ha n rs⟩
  · cases h
  · rename_i i
    split at h
    · rename_i q
      cases h
      obtain ⟨u, hu, r'⟩ := S.sv i _ q
      have r0 : σ[i]? = some (some v) := r
      rw [r0] at hu; cases hu
      exact ⟨S, Tr.refl, r'⟩
    · rename_i xs q
      cases h
      obtain ⟨S', T⟩ := S.freeze q
      refine ⟨S', T, ?_⟩
      obtain ⟨u, hu, r'⟩ := S'.sv i _ (envAt_same (envAt_lt q))
      have r0 : σ[i]? = some (some v) := r
      rw [r0] at hu; cases hu
      exact r'
    · cases h
inductive ErUs (K : PySem.W.Frag) (H : Hp) (γ : Gm) (σ : L2.St) (st : ST) : List V → List ER → Prop
  | nil : ErUs K H γ σ st [] []
  | cons {v : V} {vs : List V} {e : ER} {es : List ER} : ErU K H γ σ st v e → ErUs K H γ σ st vs es → ErUs K H γ σ st (v :: vs) (e :: es)
theorem ErU.tr (t : Tr H (Mu γ σ st) γ H' (Mu γ' σ st') γ') {e : ER} (r : ErU K H γ σ st v e) : ErU K H' γ' σ st' v e := by
  cases e with
  | v p => exact Rep.tr t r
  | own d =>
    obtain ⟨a, h1, h3, h4⟩ := r
    obtain ⟨o, ho⟩ := h4.some
    exact ⟨a, h1, t.not ho h3, h4.tr t (.inl h3)⟩
  | slot i => exact r
theorem ErUs.tr (t : Tr H (Mu γ σ st) γ H' (Mu γ' σ st') γ') {vs : List V} {es : List ER} (r : ErUs K H γ σ st vs es) : ErUs K H' γ' σ st' vs es := by
  induction r with
  | nil => exact .nil
  | cons a b ih => exact .cons (a.tr t) ih
theorem frzLU : ∀ {es : List ER} {vs : List V} {ps : List PV} {st st' : ST}, Sim K H γ σ st → frzL es st = some (ps, st') → ErUs K H γ σ st vs es →
    Sim K H γ σ st' ∧ Tr H (Mu γ σ st) γ H (Mu γ σ st') γ ∧ Reps K H (Mu γ σ st') γ vs ps
  | [], _, ps, st, st', S, h, r => by
    cases r
    cases h
    exact ⟨S, Tr.refl, .nil⟩
  | e :: es, _, ps, st, st', S, h, r => by
    cases r with
    | cons r rs =>
      simp only [frzL] at h
      split at h
      · rename_i p st1 e1
        split at h
        · rename_i qs st2 e2
          cases h
          obtain ⟨S1, T1, R1⟩ := frzU S e1 r
          obtain ⟨S2, T2, R2⟩ := frzLU S1 e2 (rs.tr T1)
          exact ⟨S2, T1.trans T2, .cons (Rep.tr T2 R1) R2⟩
        · cases h
      · cases h
variable {Hs : Hp} {Ms : Addr → Prop} {γs : Gm}
theorem ErRs.unlock (T : Tr Hs Ms γs H (Mu γ σ st) γ) (hL : ∀ a, a ∈ γs.lock → Hs a ≠ none) (S : Sim K H γ σ st) {vs : List V} {es : List ER} (r : ErRs K Hs H γ σ st vs es) : ErUs K H (γ.at γs) σ st vs es := by
  induction r with
  | nil => exact .nil
  | cons a b h ih => exact .cons (a.unlock T hL S) ih
theorem Sim.lk (S : Sim K H γ σ st) : ∀ a, a ∈ γ.lock → H a ≠ none := fun a m e => by
  obtain ⟨o, z⟩ := S.gl a (.inr m)
  rw [e] at z; cases z
/-- results made values for good -/
theorem frz_ok (Ls : ∀ a, a ∈ γs.lock → Hs a ≠ none) (T : Tr Hs Ms γs H (Mu γ σ st) γ) (S : Sim K H γ σ st) {e : ER} {p : PV} (h : e.frz st = some (p, st')) (r : ErR K Hs H γ σ st v e) :
    Sim K H (γ.at γs) σ st' ∧ Tr Hs Ms γs H (Mu (γ.at γs) σ st') (γ.at γs) ∧ Rep K H (Mu (γ.at γs) σ st') (γ.at γs) v p := by
  obtain ⟨S1, T1, R1⟩ := frzU (S.unlock T.lock) h (r.unlock T Ls S)
  exact ⟨S1, T.unlock.trans T1, R1⟩
theorem frzL_ok (Ls : ∀ a, a ∈ γs.lock → Hs a ≠ none) (T : Tr Hs Ms γs H (Mu γ σ st) γ) (S : Sim K H γ σ st) {es : List ER} {vs : List V} {ps : List PV} (h : frzL es st = some (ps, st')) (r : ErRs K Hs H γ σ st vs es) :
    Sim K H (γ.at γs) σ st' ∧ Tr Hs Ms γs H (Mu (γ.at γs) σ st') (γ.at γs) ∧ Reps K H (Mu (γ.at γs) σ st') (γ.at γs) vs ps := by
  obtain ⟨S1, T1, R1⟩ := frzLU (S.unlock T.lock) h (r.unlock T Ls S)
  exact ⟨S1, T.unlock.trans T1, R1⟩
end
section
variable {X : Cx} {B : Bs} {C : Ctx} {a b d : Expr} {ma mb md : E} {pos : Pos} {es : List Expr} {ms : EL}
theorem s_nil : PA X [] (tL B C .nil) := by
  refine PA.mono pa_nil fun σ H Qk ⟨γ, st, S, h⟩ => ?_
  rw [evL] at h
  exact h [] H γ Tr.refl S .nil
theorem errs_new {K : PySem.W.Frag} {H0 H1 H2 : Hp} {γ1 γ2 : Gm} {σ : L2.St} {st1 st2 : ST} {v : V} {x : ER} {vs : List V} {es : List ER} (R1 : ErR K H0 H1 γ1 σ st1 v x) (R2 : ErRs K H1 H2 γ2 σ st2 vs es) :
    (∃ d, x = ER.own d) → ∀ (k : Nat) (d' : LD), es[k]? = some (ER.own d') → vs[k]? ≠ some v := fun ⟨d, e⟩ k d' h q => by
  subst e
  obtain ⟨a, rfl, _, _, o⟩ := R1
  obtain ⟨b, h1, h2, _⟩ := R2.own h
  rw [q] at h1
  cases h1
  obtain ⟨z, hz⟩ := o.some
  rw [h2] at hz
  cases hz
theorem s_cons (ha : PE X a (tE B C ma)) (hr : PA X es (tL B C ms)) (hs : starEach (a :: es) X.env = (false, eval a X.env) :: starEach es X.env) : PA X (a :: es) (tL B C (.cons ma ms)) := by
  refine PA.mono (pa_cons ha hr hs) fun σ H Qk ⟨γ, st, S, h⟩ => ?_
  rw [evL, wp_bind] at h
  refine ⟨γ, st, S, wp_mono h (fun x st1 h v1 H1 γ1 T1 S1 R1 => ?_) fun _ _ e => e⟩
  rw [wp_bind] at h
  exact ⟨γ1, st1, S1, wp_mono h (fun y st2 h vs H2 γ2 T2 S2 R2 => h (v1 :: vs) H2 γ2 (T1.trans T2) S2 (.cons (ErR.tr T2 R1) (ErRs.old T1.dom R2) (errs_new R1 R2))) fun _ _ e => e.trans T1⟩
theorem s_tup {k : Nat} (h : PA X es (tL B C ms)) : PE X (.Tuple es k pos) (tE B C (.tup ms)) := by
  refine (pe_tup h).mono fun σ H Qk ⟨γ, st, S, h⟩ => ?_
  rw [ev, wp_bind] at h
  refine ⟨γ, st, S, wp_mono h (fun xs st1 h vs H1 γ1 T1 S1 R1 => ?_) fun _ _ e => e⟩
  split at h
  · rename_i ps st2 hf
    split at h
    · rename_i hz
      obtain ⟨S2, T2, R2⟩ := frzL_ok S.lk T1 S1 hf R1
      refine ⟨by rw [R2.len, sizeL]; exact hz, fun p hp => ?_⟩
      exact h _ _ _ (T2.trans (Tr.ext (upd_ext hp))) (S2.ext (upd_ext hp)) (Rep.tup upd_same (S2.fresh hp) (reps_new hp R2))
    · exact h.elim
  · exact h.elim
theorem s_lst (h : PA X es (tL B C ms)) : PE X (.List es pos) (tE B C (.lst ms)) := by
  refine (pe_lst h).mono fun σ H Qk ⟨γ, st, S, h⟩ => ?_
  rw [ev, wp_bind] at h
  refine ⟨γ, st, S, wp_mono h (fun xs st1 h vs H1 γ1 T1 S1 R1 => ?_) fun _ _ e => e⟩
  split at h
  · rename_i ps st2 hf
    split at h
    · rename_i hz
      obtain ⟨S2, T2, R2⟩ := frzL_ok S.lk T1 S1 hf R1
      refine ⟨by rw [R2.len, sizeL]; exact hz, fun p hp => ?_⟩
      obtain ⟨γ3, T3, S3, R3⟩ := fin (er := .own (.lst ps)) T2 S2 (upd_ext hp) ⟨p, rfl, hp, fun M' hM' => ⟨_, upd_same, reps_own hp hM' R2⟩⟩
      exact h _ _ γ3 T3 S3 R3
    · exact h.elim
  · exact h.elim
theorem s_dnew {t : Bool} : PE X (.Dict [] [] pos) (tE B C (.dnew t)) := by
  cases t with
  | false =>
    refine PE.mono pe_dnewK fun σ H Qk ⟨γ, st, S, h⟩ p hp => ?_
    rw [ev] at h
    obtain ⟨γ3, T3, S3, R3⟩ := fin (er := .own (.dct false [])) Tr.refl S (upd_ext (o := .dK []) hp) ⟨p, rfl, hp, fun M' hM' => ⟨[], upd_same, .nil⟩⟩
    exact h _ _ γ3 T3 S3 R3
  | true =>
    refine PE.mono pe_dnewT fun σ H Qk ⟨γ, st, S, h⟩ p hp => ?_
    rw [ev] at h
    obtain ⟨γ3, T3, S3, R3⟩ := fin (er := .own (.dct true [])) Tr.refl S (upd_ext (o := .dT []) hp) ⟨p, rfl, hp, fun M' hM' => ⟨[], upd_same, .nil⟩⟩
    exact h _ _ γ3 T3 S3 R3
/-! subscripts -/
theorem ix_dict {n : Nat} (hr : Room n X.A) : IxR X (fun x y H Qk => ∃ a v, x = .ref a ∧ DGet H a y (some v) ∧ Qk v H) := by
  intro value slice pins s σ H x y v u Qk I rx ry h hs
  obtain ⟨a, z, rfl, g, q⟩ := h
  cases rx
  have hT := dict_typeIs I g
  have hu : X.A.units + 1 < cLine := by have := units64 hr; omega
  unfold subscriptTail
  refine wpAny_bind ?_
  rw [getitemInPython_of_ne hT.not_modules]
  refine wpAny_bind (wpAny_specialOf hT PySem.F.slot_dict_getitem.lookup ?_)
  have last : wpAny (model X.prog X.w) X.A (subscripted slice false (.ref a) u) (fun r s₃ => wpAny (model X.prog X.w) X.A (letTemporaryGo value (.ref a) r >>= fun _ => pure r) (EP X pins σ Qk) X.xe s₃) X.xe s := by
    rw [hs]
    exact wpAny_operating (d_getItem hu I g ry fun r s₃ I3 rr => wpAny_bind (wpAny_letTemporaryGo (wpAny_pure ⟨z, H, I3, rr, q⟩)))
  first
    | exact wpAny_pure (wpAny_bind last)
    | exact wpAny_bind (wpAny_pure (wpAny_bind last))
    | exact wpAny_bind last
theorem ixN_eq (n : Nat) (i : Int) : L2.ixN n i = Q.ixN n i := rfl
theorem ixAll {n : Nat} (hr : Room n X.A) : IxR X (rO2 X.K fun x y => (ixO x y).map .v) := by
  intro value slice pins s σ H x y v u Qk I rx ry h hs
  obtain ⟨M, γ, dx, dy, er, hx, hy, hM, hf, hq⟩ := h
  obtain ⟨p, hp, rfl⟩ := Option.map_eq_some_iff.mp hf
  have hq : ∀ v, Rep X.K H M γ v p → Qk v H := fun v r => hq v H Ext.refl r
  unfold ixO at hp
  split at hp
  · split at hp
    · rename_i t kvs k ek
      split at hp
      · rename_i hk
        obtain ⟨a, rfl, o⟩ := hx
        have rp : Rep X.K H M γ y k := by
          unfold DV.pv at ek
          split at ek
          · cases ek; exact hy
          · cases ek
            cases t <;> exact absurd hk (by simp [keyOk, flatKey])
          · cases ek
        obtain ⟨r, g0, hm⟩ := own_get o rp hk
        rw [hp] at hm
        cases r with
        | none => exact hm.elim
        | some z => exact ix_dict hr value slice pins s σ H _ y v u Qk I rx ry ⟨a, z, rfl, g0, hq _ hm⟩ hs
      · cases hp
    · cases hp
  · split at hp
    · rename_i hz
      obtain ⟨j, e1, h1⟩ := Option.bind_eq_some_iff.mp hp
      obtain ⟨c, e2, rfl⟩ := Option.map_eq_some_iff.mp h1
      cases hx; cases hy
      refine ix_str value slice pins s σ H _ _ v u Qk I rx ry ⟨_, _, c, rfl, rfl, by rw [sizeL]; exact hz, ?_, hq _ (Rep.str _)⟩ hs
      unfold atI
      have e0 : ∀ z : Str, z.cps.toList.length = z.length := fun z => by simp [Str.length]
      rw [e0, ixN_eq, e1]
      exact e2
    · cases hp
  · obtain ⟨xs, e0, h0⟩ := Option.bind_eq_some_iff.mp hp
    obtain ⟨j, e1, h1⟩ := Option.bind_eq_some_iff.mp h0
    cases hy
    obtain ⟨a, vs, rfl, hsq, rs⟩ := hx.seq e0
    obtain ⟨z, ez, rz⟩ := rs.get h1
    have at' : ∀ i : Int, Q.ixN xs.length i = some j → atI vs i = some z := fun i q => by
      unfold atI
      rw [rs.len, ixN_eq, q]
      exact ez
    rcases hsq with hs1 | hs1
    · exact ix_list value slice pins s σ H _ _ v u Qk I rx ry ⟨_, _, _, _, rfl, rfl, hs1, at' _ e1, hq _ rz⟩ hs
    · exact ix_tup value slice pins s σ H _ _ v u Qk I rx ry ⟨_, _, _, _, rfl, rfl, hs1, at' _ e1, hq _ rz⟩ hs
  · cases hp
theorem s_idx {n : Nat} (hB : B.K = X.K) (hr : Room n X.A) (ha : PE X a (tE B C ma)) (hb : PE X b (tE B C mb)) (hp : PlainIx b) : PE X (.Subscript a b pos) (tE B C (.idx ma mb)) := by
  refine s_op2 (f := fun x y => (ixO x y).map .v) hB (fun st => ?_) (fun _ _ _ _ h => h) (pe_ix (ixAll hr) ha hb hp)
  rw [ev]
  refine congrArg _ (funext fun x => funext fun st => congrArg _ (funext fun y => funext fun st => ?_))
  cases ixO (x.get st) (y.get st) <;> rfl
end
end Q
end
section
set_option maxHeartbeats 1000000
namespace Q
open PySem PySem.Spec PyProof.Rows
open L2 hiding cutV
section
variable {K : PySem.W.Frag} {H0 H H' : Hp} {γ γ' : Gm} {σ : L2.St} {st st' : ST} {v : V}
/-- an owned object is written -/
theorem Sim.write (S : Sim K H γ σ st) {i : Nat} {d d' : LD} {a : Addr} {o : HO} (h : envAt st i = some (.own d)) (ha : σ[i]? = some (some (.ref a)))
    (new : ∀ H', Tr H (Mu γ σ st) γ H' (Mu γ σ st) γ → H' a = some o → OwnR K H' (Mu γ σ st) γ a d') :
    Sim K (upd H a o) γ σ (st.put i (some (.own d'))) ∧ Tr H (Mu γ σ st) γ (upd H a o) (Mu γ σ (st.put i (some (.own d')))) γ := by
  have hi := envAt_lt h
  have hm : Mu γ σ st a := .inr ⟨i, d, h, ha⟩
  have back : ∀ j s, envAt (st.put i (some (.own d'))) j = some s → (j = i ∧ s = .own d') ∨ (j ≠ i ∧ envAt st j = some s) := fun j s e => by
    by_cases hj : j = i
    · subst hj
      rw [envAt_same hi] at e
      cases e
      exact .inl ⟨rfl, rfl⟩
    · rw [envAt_other hj] at e
      exact .inr ⟨hj, e⟩
  have mu : Mu γ σ (st.put i (some (.own d'))) = Mu γ σ st := by
    funext b
    refine propext ⟨fun m => ?_, fun m => ?_⟩
    · rcases m with m | ⟨j, e, h1, q⟩
      · exact .inl m
      · rcases back j _ h1 with ⟨rfl, z⟩ | ⟨_, z⟩
        · exact .inr ⟨j, d, h, q⟩
        · exact .inr ⟨j, e, z, q⟩
    · rcases m with m | ⟨j, e, h1, q⟩
      · exact .inl m
      · by_cases hj : j = i
        · subst hj
          exact .inr ⟨j, d', envAt_same hi, q⟩
        · exact .inr ⟨j, e, by rw [envAt_other hj]; exact h1, q⟩
  have T : Tr H (Mu γ σ st) γ (upd H a o) (Mu γ σ st) γ := by
    refine ⟨fun b u e n => ?_, fun b m => m, fun b e => ?_, fun b m => .inl m, ⟨[], by simp⟩⟩
    · rw [upd_ne fun z => ?_]
      · exact e
      · subst z
        rcases n with n | n
        · exact n hm
        · exact S.sep i d b h ha (.inr n)
    · by_cases hb : b = a
      · subst hb; rw [upd_same] at e; cases e
      · rw [upd_ne hb] at e; exact e
  rw [mu]
  refine ⟨⟨by rw [put_len]; exact S.len, fun j s e => ?_, fun j k d1 s b e1 e2 q1 q2 => ?_, fun b m => ?_, fun j d1 b e q => ?_, S.g0⟩, T⟩
  · rw [mu]
    rcases back j s e with ⟨rfl, rfl⟩ | ⟨hj, z⟩
    · exact ⟨_, ha, a, rfl, new _ T upd_same⟩
    · obtain ⟨u, hu, r⟩ := S.sv j s z
      refine ⟨u, hu, ?_⟩
      cases s with
      | v p => exact Rep.tr T r
      | own d1 =>
        obtain ⟨b, e1, r⟩ := r
        subst e1
        refine ⟨b, rfl, r.tr' T fun u e => ?_⟩
        rw [upd_ne fun w => hj (S.inj j i d1 _ b z h hu (by rw [w]; exact ha))]
        exact e
  · rcases back j _ e1 with ⟨rfl, z⟩ | ⟨hj, z1⟩
    · rcases back k _ e2 with ⟨rfl, z2⟩ | ⟨hk, z2⟩
      · rfl
      · exact S.inj j k d s b h z2 q1 q2
    · rcases back k _ e2 with ⟨rfl, _⟩ | ⟨hk, z2⟩
      · exact S.inj j k d1 _ b z1 h q1 q2
      · exact S.inj j k d1 s b z1 z2 q1 q2
  · obtain ⟨u, e⟩ := S.gl b m
    by_cases hb : b = a
    · subst hb
      exact ⟨_, upd_same⟩
    · exact ⟨u, by rw [upd_ne hb]; exact e⟩
  · rcases back j _ e with ⟨rfl, z⟩ | ⟨hj, z⟩
    · exact S.sep j d b h q
    · exact S.sep j d1 b z q
end
inductive DvRs (K : PySem.W.Frag) (H : Hp) (M : Addr → Prop) (γ : Gm) : List V → List DV → Prop
  | nil : DvRs K H M γ [] []
  | cons {v : V} {vs : List V} {x : DV} {xs : List DV} : DvR K H M γ v x → DvRs K H M γ vs xs → DvRs K H M γ (v :: vs) (x :: xs)
theorem ErRs.dvs {K : PySem.W.Frag} {H0 H : Hp} {γ : Gm} {σ : L2.St} {st : ST} (S : Sim K H γ σ st) {vs : List V} {es : List ER} (r : ErRs K H0 H γ σ st vs es) : DvRs K H (Mu γ σ st) γ vs (es.map (ER.get st)) := by
  induction r with
  | nil => exact .nil
  | cons a b h ih => exact .cons (a.dv S) ih
/-- what a call of values asks -/
def rBl (K : PySem.W.Frag) (f : List DV → Option ER) : List V → Hp → VK → Prop := fun vs H Qk => ∃ (M : Addr → Prop) (γ : Gm) (ds : List DV) (er : ER), DvRs K H M γ vs ds ∧ (∀ a, M a → H a ≠ none) ∧ f ds = some er ∧
  ∀ v H', Ext H H' → ResR K H H' M γ v er → Qk v H'
section
variable {X : Cx} {B : Bs} {C : Ctx} {a b d : Expr} {ma mb md : E} {pos : Pos} {es : List Expr} {ms : EL}
theorem slAll : SlR X (fun x lo hi H Qk => ∃ (M : Addr → Prop) (γ : Gm) (dx : DV) (er : ER), DvR X.K H M γ x dx ∧ (∀ a, M a → H a ≠ none) ∧ slO dx lo hi = some er ∧ ∀ v H', Ext H H' → ResR X.K H H' M γ v er → Qk v H') := by
  intro pins s σ H x v vl vu lo hi sl Qk I rx hs pl pu h
  obtain ⟨M, γ, dx, er, hx, hM, hf, hq⟩ := h
  unfold slO at hf
  split at hf
  · split at hf
    · rename_i hz
      cases hf
      cases hx
      refine sl_str pins s σ H _ v vl vu lo hi sl Qk I rx hs pl pu ⟨_, rfl, by rw [sizeL]; exact hz, ?_⟩
      refine hq _ H Ext.refl ?_
      have e : ∀ z : Str, cutS z lo hi = ⟨(cut z.cps.toList lo hi).toArray⟩ := fun z => by
        unfold cutS cut
        have e0 : z.cps.toList.length = z.length := by simp [Str.length]
        rw [e0]
      rw [e]
      exact Rep.str _
    · cases hf
  · cases hf
    cases hx with
    | tup h1 n1 r1 =>
      have hc : ∀ {H' : Hp}, Ext H H' → Reps X.K H' M γ (L2.cutV _ lo hi) (cut _ lo hi) := fun E => by
        unfold L2.cutV cut
        rw [r1.len]
        exact Reps.take _ (Reps.drop _ (Reps.tr (Tr.ext E) r1))
      refine sl_tupA pins s σ H _ v vl vu lo hi sl Qk I rx hs pl pu ⟨_, _, rfl, SqT.of h1, fun w => ?_, fun w p hp => ?_⟩
      · refine hq _ H Ext.refl (Rep.tup h1 n1 ?_)
        have e := hc (H' := H) Ext.refl
        unfold L2.cutV at e
        rw [w.1, w.2] at e
        simpa using e
      · exact hq _ _ (upd_ext hp) (Rep.tup upd_same (fun m => hM p m hp) (hc (upd_ext hp)))
  · cases hf
    obtain ⟨a, vs, rfl, hsq, rs⟩ := DvR.seq (x := .v (.scr _)) rfl hx
    have hsq : SqL X.K H a vs := by
      rcases hsq with z | z
      · exact z
      · exfalso
        obtain ⟨b, ws, e, q1, _⟩ := DvR.seq (x := .v (.scr _)) rfl hx
        cases hx with
        | scr w =>
          rcases w with ⟨w, _⟩ | w
          · obtain ⟨_, _, p1, _⟩ := I.list (.inl w)
            obtain ⟨_, _, p2, _⟩ := I.tuple z
            obtain ⟨o, _, e1, c1, _⟩ := p1
            obtain ⟨o2, e2, c2, _⟩ := p2
            rw [e1] at e2; cases e2
            rw [c1] at c2
            simp at c2
          · obtain ⟨_, _, p1, _⟩ := I.list w.sq
            obtain ⟨_, _, p2, _⟩ := I.tuple z
            obtain ⟨o, _, e1, c1, _⟩ := p1
            obtain ⟨o2, e2, c2, _⟩ := p2
            rw [e1] at e2; cases e2
            rw [c1] at c2
            simp at c2
    refine sl_list pins s σ H _ v vl vu lo hi sl Qk I rx hs pl pu ⟨_, _, rfl, hsq, fun p hp => ?_⟩
    refine hq _ _ (upd_ext hp) ⟨p, rfl, hp, fun M' hM' => ⟨_, upd_same, ?_⟩⟩
    unfold L2.cutV cut
    rw [rs.len]
    exact Reps.take _ (Reps.drop _ (reps_own hp hM' rs))
  · obtain ⟨xs, e, rfl⟩ := Option.map_eq_some_iff.mp hf
    obtain ⟨a, vs, rfl, hl, rs⟩ := hx.lst e
    refine sl_list pins s σ H _ v vl vu lo hi sl Qk I rx hs pl pu ⟨_, _, rfl, SqL.of hl, fun p hp => ?_⟩
    refine hq _ _ (upd_ext hp) ⟨p, rfl, hp, fun M' hM' => ⟨_, upd_same, ?_⟩⟩
    unfold L2.cutV cut
    rw [rs.len]
    exact Reps.take _ (Reps.drop _ (reps_own hp hM' rs))
def relO : Hp → Gm → ST → Option Int → Option Int → Prop := fun _ _ _ b a => b = a
def tO (B : Bs) (C : Ctx) (m : OE) : TO := fun σ H Qk => ∃ γ st, Sim B.K H γ σ st ∧ (evO C m st).wp (okK B σ H γ st relO Qk) (excK B σ H γ st)
theorem _root_.L2.PO.mono {X : Cx} {e : Option Expr} {t t' : TO} (h : PO X e t) (imp : ∀ σ H Qk, t' σ H Qk → t σ H Qk) : PO X e t' := ⟨fun pins s σ H Qk I q => h.run pins s σ H Qk I (imp σ H Qk q)⟩
theorem s_no : PO X none (tO B C .no) := by
  refine PO.mono po_none fun σ H Qk ⟨γ, st, S, h⟩ => ?_
  rw [evO] at h
  exact h none H γ Tr.refl S rfl
theorem s_yes (ha : PE X a (tE B C ma)) : PO X (some a) (tO B C (.yes ma)) := by
  refine PO.mono (po_some ha) fun σ H Qk ⟨γ, st, S, h⟩ => ?_
  rw [evO, wp_bind] at h
  refine ⟨γ, st, S, wp_mono h (fun x st1 h v1 H1 γ1 T1 S1 R1 => ?_) fun _ _ e => e⟩
  have D := ErR.dv S1 R1
  split at h
  · rename_i i q
    rw [q] at D
    cases D
    exact ⟨i, rfl, h _ H1 γ1 T1 S1 rfl⟩
  · exact h.elim
theorem s_sl {lo hi : Option Expr} {ml mh : OE} {p2 : Pos} (hB : B.K = X.K) (ha : PE X a (tE B C ma)) (hl : PO X lo (tO B C ml)) (hh : PO X hi (tO B C mh)) : PE X (.Subscript a (.Slice lo hi none p2) pos) (tE B C (.sl ma ml mh)) := by
  refine (pe_slice slAll ha hl hh).mono fun σ H Qk ⟨γ, st, S, h⟩ => ?_
  rw [ev, wp_bind] at h
  refine ⟨γ, st, S, wp_mono h (fun x st1 h v1 H1 γ1 T1 S1 R1 => ?_) fun _ _ e => e⟩
  rw [wp_bind] at h
  refine ⟨γ1, st1, S1, wp_mono h (fun l st2 h l' H2 γ2 T2 S2 R2 => ?_) fun _ _ e => e.trans T1⟩
  have R2 : l' = l := R2
  subst R2
  rw [wp_bind] at h
  refine ⟨γ2, st2, S2, wp_mono h (fun u st3 h u' H3 γ3 T3 S3 R3 => ?_) fun _ _ e => (e.trans T1).trans T2⟩
  have R3 : u' = u := R3
  subst R3
  cases q : slO (x.get st3) l' u' with
  | none => rw [q] at h; exact h.elim
  | some er =>
    rw [q] at h
    have R1' : ErR B.K H H3 γ3 σ st3 v1 x := ErR.tr (T2.trans T3) R1
    refine ⟨Mu γ3 σ st3, γ3, _, er, hB ▸ R1'.dv S3, S3.mu0, q, fun v H4 E4 R4 => ?_⟩
    rw [← hB] at R4
    obtain ⟨γ4, T4, S4, R⟩ := fin (T1.trans (T2.trans T3)) S3 E4 R4
    exact h v H4 γ4 T4 S4 R
/-! built-in functions -/
/-- what a call of a built-in asks: from the arguments -/
theorem s_blt {f : BF} {r : List V → Hp → VK → Prop} {e : Expr} (hB : B.K = X.K) (h : PE X e (tCB r (tL B C ms))) (hr : ∀ vs H Qk, rBl X.K (bltO f) vs H Qk → r vs H Qk) : PE X e (tE B C (.blt f ms)) := by
  refine h.mono fun σ H Qk ⟨γ, st, S, h⟩ => ?_
  rw [ev, wp_bind] at h
  refine ⟨γ, st, S, wp_mono h (fun xs st1 h vs H1 γ1 T1 S1 R1 => hr _ _ _ ?_) fun _ _ e => e⟩
  cases q : bltO f (xs.map (ER.get st1)) with
  | none => rw [q] at h; exact h.elim
  | some er =>
    rw [q] at h
    refine ⟨Mu γ1 σ st1, γ1, _, er, hB ▸ ErRs.dvs S1 R1, S1.mu0, q, fun v H4 E4 R4 => ?_⟩
    rw [← hB] at R4
    obtain ⟨γ4, T4, S4, R⟩ := fin T1 S1 E4 R4
    exact h v H4 γ4 T4 S4 R
theorem dvs1 {K : PySem.W.Frag} {H : Hp} {M : Addr → Prop} {γ : Gm} {vs : List V} {x : DV} (h : DvRs K H M γ vs [x]) : ∃ v, vs = [v] ∧ DvR K H M γ v x := by
  cases h with
  | cons a b => cases b; exact ⟨_, rfl, a⟩
theorem dvs2 {K : PySem.W.Frag} {H : Hp} {M : Addr → Prop} {γ : Gm} {vs : List V} {x y : DV} (h : DvRs K H M γ vs [x, y]) : ∃ v w, vs = [v, w] ∧ DvR K H M γ v x ∧ DvR K H M γ w y := by
  cases h with
  | cons a b => cases b with
    | cons c d => cases d; exact ⟨_, _, rfl, a, c⟩
theorem cLen : CallR X (.builtin "len") (rBl X.K (bltO .len)) := by
  intro pins s σ H xs us Qk I r h
  obtain ⟨M, γ, ds, er, hd, hM, hf, hq⟩ := h
  unfold bltO at hf
  split at hf <;> first | contradiction | skip
  · obtain ⟨v, rfl, hx⟩ := dvs1 hd
    split at hf
    · rename_i hz
      cases hf
      cases hx
      exact call_len_str pins s σ H _ us Qk I r ⟨_, rfl, by rw [sizeL]; exact hz, hq _ H Ext.refl (Rep.int _)⟩
    · cases hf
  · obtain ⟨v, rfl, hx⟩ := dvs1 hd
    split at hf
    · rename_i ht
      cases hf
      subst ht
      obtain ⟨a, rfl, ks, hk, hp⟩ := hx
      refine call_len_dT pins s σ H _ us Qk I r ⟨_, _, rfl, hk, ?_⟩
      rw [hp.length]
      exact hq _ H Ext.refl (Rep.int _)
    · cases hf
  · obtain ⟨v, rfl, hx⟩ := dvs1 hd
    obtain ⟨xs, e, rfl⟩ := Option.map_eq_some_iff.mp hf
    obtain ⟨a, vs, rfl, hsq, rs⟩ := hx.seq e
    refine call_len_seq pins s σ H _ us Qk I r ⟨_, _, rfl, hsq, ?_⟩
    rw [rs.len]
    exact hq _ H Ext.refl (Rep.int _)
theorem cInt : CallR X (.type "int") (rBl X.K (bltO .int)) := by
  intro pins s σ H xs us Qk I r h
  obtain ⟨M, γ, ds, er, hd, hM, hf, hq⟩ := h
  unfold bltO at hf
  split at hf <;> first | contradiction | skip
  · obtain ⟨v, rfl, hx⟩ := dvs1 hd
    cases hf; cases hx
    exact call_int1 pins s σ H _ us Qk I r (.inl ⟨_, rfl, hq _ H Ext.refl (Rep.int _)⟩)
  · obtain ⟨v, rfl, hx⟩ := dvs1 hd
    cases hf; cases hx
    exact call_int1 pins s σ H _ us Qk I r (.inr ⟨_, rfl, hq _ H Ext.refl (Rep.int _)⟩)
theorem cBool : CallR X (.type "bool") (rBl X.K (bltO .bool)) := by
  intro pins s σ H xs us Qk I r h
  obtain ⟨M, γ, ds, er, hd, hM, hf, hq⟩ := h
  unfold bltO at hf
  split at hf <;> first | contradiction | skip
  · obtain ⟨v, rfl, hx⟩ := dvs1 hd
    cases hf; cases hx
    exact call_bool1 pins s σ H _ us Qk I r (.inr ⟨_, rfl, hq _ H Ext.refl (Rep.bl _)⟩)
  · obtain ⟨v, rfl, hx⟩ := dvs1 hd
    cases hf; cases hx
    exact call_bool1 pins s σ H _ us Qk I r (.inl ⟨_, rfl, hq _ H Ext.refl (Rep.bl _)⟩)
theorem cAbs : CallR X (.builtin "abs") (rBl X.K (bltO .abs)) := by
  intro pins s σ H xs us Qk I r h
  obtain ⟨M, γ, ds, er, hd, hM, hf, hq⟩ := h
  unfold bltO at hf
  split at hf <;> first | contradiction | skip
  obtain ⟨v, rfl, hx⟩ := dvs1 hd
  cases hf; cases hx
  exact call_abs pins s σ H _ us Qk I r ⟨_, rfl, hq _ H Ext.refl (Rep.int _)⟩
theorem cStr : CallR X (.type "str") (rBl X.K (bltO .str)) := by
  intro pins s σ H xs us Qk I r h
  obtain ⟨M, γ, ds, er, hd, hM, hf, hq⟩ := h
  unfold bltO at hf
  split at hf <;> first | contradiction | skip
  obtain ⟨v, rfl, hx⟩ := dvs1 hd
  split at hf
  · rename_i hz
    cases hf; cases hx
    exact call_str_int pins s σ H _ us Qk I r ⟨_, rfl, hz, hq _ H Ext.refl (Rep.str _)⟩
  · cases hf
theorem cMax (hc : X.calm = true) : CallR X (.builtin "max") (rBl X.K (bltO .max2)) := by
  intro pins s σ H xs us Qk I r h
  obtain ⟨M, γ, ds, er, hd, hM, hf, hq⟩ := h
  unfold bltO at hf
  split at hf <;> first | contradiction | skip
  obtain ⟨v, w, rfl, hx, hy⟩ := dvs2 hd
  cases hf; cases hx; cases hy
  exact call_max2 hc pins s σ H _ us Qk I r ⟨_, _, rfl, hq _ H Ext.refl (Rep.int _)⟩
theorem cMin (hc : X.calm = true) : CallR X (.builtin "min") (rBl X.K (bltO .min2)) := by
  intro pins s σ H xs us Qk I r h
  obtain ⟨M, γ, ds, er, hd, hM, hf, hq⟩ := h
  unfold bltO at hf
  split at hf <;> first | contradiction | skip
  obtain ⟨v, w, rfl, hx, hy⟩ := dvs2 hd
  cases hf; cases hx; cases hy
  exact call_min2 hc pins s σ H _ us Qk I r ⟨_, _, rfl, hq _ H Ext.refl (Rep.int _)⟩
theorem cAll (hc : X.calm = true) : CallR X (.builtin "all") (rBl X.K (bltO .all)) := by
  intro pins s σ H xs us Qk I r h
  obtain ⟨M, γ, ds, er, hd, hM, hf, hq⟩ := h
  unfold bltO at hf
  split at hf <;> first | contradiction | skip
  obtain ⟨v, rfl, hx⟩ := dvs1 hd
  obtain ⟨bs, e, rfl⟩ := Option.map_eq_some_iff.mp hf
  obtain ⟨ys, e1, e2⟩ := Option.bind_eq_some_iff.mp e
  obtain ⟨a, vs, rfl, hl, rs⟩ := hx.lst e1
  have z := Reps.boolsOf rs e2
  subst z
  exact cr_all hc pins s σ H _ us Qk I r ⟨_, _, rfl, SqL.of hl, hq _ H Ext.refl (Rep.bl _)⟩
theorem cList : CallR X (.type "list") (rBl X.K (bltO .list)) := by
  intro pins s σ H xs us Qk I r h
  obtain ⟨M, γ, ds, er, hd, hM, hf, hq⟩ := h
  unfold bltO at hf
  split at hf <;> first | contradiction | skip
  obtain ⟨v, rfl, hx⟩ := dvs1 hd
  obtain ⟨ys, e, rfl⟩ := Option.map_eq_some_iff.mp hf
  obtain ⟨a, vs, rfl, hsq, rs⟩ := hx.seq e
  exact call_list_of pins s σ H _ us Qk I r ⟨_, _, rfl, hsq, fun p hp => hq _ _ (upd_ext hp) ⟨p, rfl, hp, fun M' hM' => ⟨_, upd_same, reps_own hp hM' rs⟩⟩⟩
theorem cTuple : CallR X (.type "tuple") (rBl X.K (bltO .tuple)) := by
  intro pins s σ H xs us Qk I r h
  obtain ⟨M, γ, ds, er, hd, hM, hf, hq⟩ := h
  unfold bltO at hf
  split at hf <;> first | contradiction | skip
  obtain ⟨v, rfl, hx⟩ := dvs1 hd
  obtain ⟨ys, e, rfl⟩ := Option.map_eq_some_iff.mp hf
  obtain ⟨a, vs, rfl, hsq, rs⟩ := hx.seq e
  refine call_tuple_of pins s σ H _ us Qk I r ⟨_, vs, rfl, ?_⟩
  rcases hsq with h1 | h1
  · exact .inl ⟨h1, fun p hp => hq _ _ (upd_ext hp) (Rep.tup upd_same (fun m => hM p m hp) (reps_new hp rs))⟩
  · refine .inr ⟨h1, hq _ H Ext.refl ?_⟩
    unfold DV.seq at e
    split at e
    · cases e; exact hx
    · cases e
      cases hx with
      | lst h2 n2 r2 =>
        exfalso
        obtain ⟨_, _, p1, _⟩ := I.list (SqL.of h2)
        obtain ⟨_, _, p2, _⟩ := I.tuple h1
        obtain ⟨o, _, e1, c1, _⟩ := p1
        obtain ⟨o2, e2, c2, _⟩ := p2
        rw [e1] at e2; cases e2
        rw [c1] at c2
        simp at c2
    · cases e
      exfalso
      cases hx with
      | scr w =>
        obtain ⟨zs, q⟩ : ∃ zs, SqL X.K H a zs := by
          rcases w with ⟨w, _⟩ | w
          · exact ⟨_, .inl w⟩
          · exact ⟨_, w.sq⟩
        obtain ⟨_, _, p1, _⟩ := I.list q
        obtain ⟨_, _, p2, _⟩ := I.tuple h1
        obtain ⟨o, _, e1, c1, _⟩ := p1
        obtain ⟨o2, e2, c2, _⟩ := p2
        rw [e1] at e2; cases e2
        rw [c1] at c2
        simp at c2
    · cases e
      exfalso
      obtain ⟨b, eb, ws, h2, r2⟩ := hx
      cases eb
      obtain ⟨_, _, p1, _⟩ := I.list (SqL.of h2)
      obtain ⟨_, _, p2, _⟩ := I.tuple h1
      obtain ⟨o, _, e1, c1, _⟩ := p1
      obtain ⟨o2, e2, c2, _⟩ := p2
      rw [e1] at e2; cases e2
      rw [c1] at c2
      simp at c2
    · cases e
/-- repr -/
theorem cRepr {n : Nat} (hr : Room n X.A) (hg : X.A.guards = some []) : CallR X (.builtin "repr") (rBl X.K (bltO .repr)) := by
  intro pins s σ H xs us Qk I r h
  obtain ⟨M, γ, ds, er, hd, hM, hf, hq⟩ := h
  unfold bltO at hf
  split at hf <;> first | contradiction | skip
  obtain ⟨v, rfl, hx⟩ := dvs1 hd
  split at hf
  · rename_i p ep
    split at hf
    · rename_i hz
      cases hf
      simp only [Bool.and_eq_true, decide_eq_true_eq] at hz
      obtain ⟨⟨h0, h1⟩, h4⟩ := hz
      have h3 := SeqAt.depth_of_shaped h0
      obtain ⟨u, rfl, ru⟩ := vals1 r
      have fin : ∀ (h' : Heap) (u' : Tok) (tk : Nat), (∀ b o, s.heap.get? b = some o → h'.get? b = some o) → EP X pins σ Qk (.str p.toD.shown u') { s with heap := h', toks := tk } := fun h' u' tk k =>
        ⟨.str _, H, I.kept k, ⟨u', rfl⟩, hq _ H Ext.refl (Rep.str _)⟩
      have hsz : p.toD.shown.length ≤ sizeLine := by rw [sizeL]; exact h4
      have box : (∃ a, v = .ref a) → wpAny (model X.prog X.w) X.A (PySem.call (.builtin "repr") [u]) (EP X pins σ Qk) X.xe s := fun ⟨a, ea⟩ => by
        subst ea
        cases ru
        obtain ⟨as, rd⟩ := Dp.reads I p.toD (.ref a) (.ref a) (hx.dp ep (fit_lay h0)) rfl
        refine repr_of_reads' rd h1 (PyData.noDict_hsm (PyData.hasDict_of_canLay _ (fit_lay h0))) hg (by have := units64 hr; omega) (fun _ _ e => e) (fun h' u' tk k => ?_) hsz
        exact fin h' u' tk k
      unfold DV.pv at ep
      split at ep
      · cases ep
        cases hx with
        | non =>
          cases ru
          exact P.repr_of_none (fin s.heap s.toks (s.toks + 1) fun _ _ e => e)
        | bl b =>
          cases ru
          exact P.repr_of_bool (by
            have := fin s.heap s.toks (s.toks + 1) fun _ _ e => e
            cases b <;> exact this)
        | int i =>
          obtain ⟨t, rfl⟩ := ru
          exact P.repr_of_int (of_decide_eq_true h1) (fin s.heap s.toks (s.toks + 1) fun _ _ e => e)
        | str x =>
          obtain ⟨t, rfl⟩ := ru
          exact P.repr_of_str (fin s.heap s.toks (s.toks + 1) fun _ _ e => e) hsz
        | tup _ _ _ => exact box ⟨_, rfl⟩
        | lst _ _ _ => exact box ⟨_, rfl⟩
        | scr _ => exact box ⟨_, rfl⟩
        | obj _ => exact box ⟨_, rfl⟩
      · obtain ⟨a, rfl, _⟩ := hx
        exact box ⟨a, rfl⟩
      · cases ep
    · cases hf
  · cases hf
end
end Q
end
section
set_option maxHeartbeats 1000000
namespace Q
open PySem PySem.Spec PyProof.Rows
open L2 hiding cutV
/-! ### lists changed -/
def rMut (K : PySem.W.Frag) (m : MM) : V → List V → Hp → VK → Prop := fun x vs H Qk => ∃ (M : Addr → Prop) (γ : Gm) (a : Addr) (ws : List V) (xs ps : List PV) (r0 : PV) (xs' : List PV), x = .ref a ∧ H a = some (.lst ws) ∧
  Reps K H M γ ws xs ∧ Reps K H M γ vs ps ∧ mutO m xs ps = some (r0, xs') ∧ ∀ v ws', Rep K H M γ v r0 → Reps K H M γ ws' xs' → Qk v (upd H a (.lst ws'))
section
variable {K : PySem.W.Frag} {H : Hp} {M : Addr → Prop} {γ : Gm}
theorem reps1 {vs : List V} {p : PV} (h : Reps K H M γ vs [p]) : ∃ v, vs = [v] ∧ Rep K H M γ v p := by
  cases h with
  | cons a b => cases b; exact ⟨_, rfl, a⟩
theorem reps2 {vs : List V} {p q : PV} (h : Reps K H M γ vs [p, q]) : ∃ v w, vs = [v, w] ∧ Rep K H M γ v p ∧ Rep K H M γ w q := by
  cases h with
  | cons a b => cases b with
    | cons c d => cases d; exact ⟨_, _, rfl, a, c⟩
theorem reps_init : ∀ {xs : List PV} {vs : List V}, Reps K H M γ vs xs → Reps K H M γ vs.dropLast xs.dropLast
  | [], _, .nil => .nil
  | [_], _, .cons _ .nil => .nil
  | _ :: _ :: _, _, .cons a (.cons b c) => .cons a (reps_init (.cons b c))
theorem reps_erase : ∀ {xs : List PV} {vs : List V} (k : Nat), Reps K H M γ vs xs → Reps K H M γ (vs.eraseIdx k) (xs.eraseIdx k)
  | _, _, _, .nil => by simpa using Reps.nil
  | _, _, 0, .cons _ t => t
  | _, _, k + 1, .cons r t => .cons r (reps_erase k t)
end
section
variable {X : Cx}
theorem mAppend : MtR X "list.append" (rMut X.K .append) := by
  intro pins s σ H x vs v us Qk I rx rv h
  obtain ⟨M, γ, a, ws, xs, ps, r0, xs', rfl, hl, r1, r2, hm, hq⟩ := h
  unfold mutO at hm
  split at hm <;> first | contradiction | skip
  obtain ⟨y, rfl, ry⟩ := reps1 r2
  split at hm
  · rename_i hz
    cases hm
    exact mt_append pins s σ H _ _ v us Qk I rx rv ⟨_, _, _, rfl, rfl, hl, by rw [r1.len, sizeL]; exact hz, hq _ _ Rep.non (Reps.app r1 (.cons ry .nil))⟩
  · cases hm
theorem mExtend : MtR X "list.extend" (rMut X.K .extend) := by
  intro pins s σ H x vs v us Qk I rx rv h
  obtain ⟨M, γ, a, ws, xs, ps, r0, xs', rfl, hl, r1, r2, hm, hq⟩ := h
  unfold mutO at hm
  split at hm <;> first | contradiction | skip
  obtain ⟨y, rfl, ry⟩ := reps1 r2
  split at hm
  · rename_i hz
    cases hm
    cases ry with
    | lst h1 n1 r3 =>
      exact mt_extend pins s σ H _ _ v us Qk I rx rv ⟨_, _, _, _, rfl, rfl, hl, h1, by rw [r1.len, r3.len]; exact fits hz, hq _ _ Rep.non (Reps.app r1 r3)⟩
  · cases hm
theorem mPop : MtR X "list.pop" (rMut X.K .pop) := by
  intro pins s σ H x vs v us Qk I rx rv h
  obtain ⟨M, γ, a, ws, xs, ps, r0, xs', rfl, hl, r1, r2, hm, hq⟩ := h
  unfold mutO at hm
  split at hm <;> first | contradiction | skip
  cases r2
  obtain ⟨y, e, z⟩ := Option.map_eq_some_iff.mp hm
  cases z
  rw [List.getLast?_eq_getElem?] at e
  obtain ⟨w, ew, rw'⟩ := r1.get e
  rw [← r1.len] at ew
  exact mt_pop pins s σ H _ _ v us Qk I rx rv ⟨_, _, _, rfl, rfl, hl, ew, hq _ _ rw' (reps_init r1)⟩
theorem mPopAt : MtR X "list.pop" (rMut X.K .popAt) := by
  intro pins s σ H x vs v us Qk I rx rv h
  obtain ⟨M, γ, a, ws, xs, ps, r0, xs', rfl, hl, r1, r2, hm, hq⟩ := h
  unfold mutO at hm
  split at hm <;> first | contradiction | skip
  obtain ⟨y, rfl, ry⟩ := reps1 r2
  cases ry
  obtain ⟨k, e1, hm⟩ := Option.bind_eq_some_iff.mp hm
  obtain ⟨y, e2, z⟩ := Option.map_eq_some_iff.mp hm
  cases z
  obtain ⟨w, ew, rw'⟩ := r1.get e2
  rw [← r1.len] at e1
  rename_i i _ _
  have e1' : L2.ixN ws.length i = some k := e1
  obtain ⟨s1, s2, s3, s4⟩ := ixN_seq e1'
  have hw : ws.length ≤ sizeLine := (I.list (SqL.of hl)).choose_spec.2.2
  rw [sizeL] at hw
  unfold line at hw
  exact mt_popAt pins s σ H _ _ v us Qk I rx rv ⟨_, _, _, _, _, rfl, rfl, hl, by omega, by omega, s1, ew, hq _ _ rw' (reps_erase _ r1)⟩
theorem mInsert : MtR X "list.insert" (rMut X.K .insert) := by
  intro pins s σ H x vs v us Qk I rx rv h
  obtain ⟨M, γ, a, ws, xs, ps, r0, xs', rfl, hl, r1, r2, hm, hq⟩ := h
  unfold mutO at hm
  split at hm <;> first | contradiction | skip
  obtain ⟨y, z, rfl, ry, rz⟩ := reps2 r2
  cases ry
  split at hm
  · rename_i hz
    cases hm
    exact mt_insert pins s σ H _ _ v us Qk I rx rv ⟨_, _, _, _, rfl, rfl, hl, by rw [r1.len, sizeL]; exact hz.2.2, hz.1, hz.2.1, hq _ _ Rep.non (Reps.app (Reps.app (Reps.take _ r1) (.cons rz .nil)) (Reps.drop _ r1))⟩
  · cases hm
theorem mClear : MtR X "list.clear" (rMut X.K .clear) := by
  intro pins s σ H x vs v us Qk I rx rv h
  obtain ⟨M, γ, a, ws, xs, ps, r0, xs', rfl, hl, r1, r2, hm, hq⟩ := h
  unfold mutO at hm
  split at hm <;> first | contradiction | skip
  cases r2
  cases hm
  exact mt_clear pins s σ H _ _ v us Qk I rx rv ⟨_, _, rfl, rfl, hl, hq _ _ Rep.non .nil⟩
end
section
variable {X : Cx} {B : Bs} {C : Ctx} {a b d : Expr} {ma mb md : E} {pos : Pos} {es : List Expr} {ms : EL}
/-- behind the arguments: the list is changed -/
theorem s_mutG {m : MM} {i : Nat} {t : TA} {σ : L2.St} {H : Hp} {Qk : VK} (hB : B.K = X.K) (ht : ∀ σ H Qk, tL B C ms σ H Qk → t σ H Qk) (h : tE B C (.mut m i ms) σ H Qk) : tBM X.K "list" (rMut X.K m) (tVar i) t σ H Qk := by
  obtain ⟨γ, st, S, h⟩ := h
  rw [ev] at h
  split at h
  · rename_i ho
    unfold ownsL at ho
    split at ho
    · rename_i xs0 q0
      obtain ⟨v, hv, a, rfl, ws0, hl0, r0⟩ := S.sv i _ q0
      refine ⟨_, hv, .inl ⟨rfl, _, SqL.of hl0⟩, ht _ _ _ ?_⟩
      rw [wp_bind] at h
      refine ⟨γ, st, S, wp_mono h (fun es st1 h vs H1 γ1 T1 S1 R1 => ?_) fun _ _ e => e⟩
      split at h
      · rename_i ps st2 hf
        obtain ⟨S2, T2, R2⟩ := frzL_ok S.lk T1 S1 hf R1
        split at h
        · rename_i xs q
          split at h
          · rename_i r1 xs' hm
            obtain ⟨u, hu, b, rfl, ws, hl, rs⟩ := S2.sv i _ q
            rw [hv] at hu
            cases hu
            refine ⟨Mu (γ1.at γ) σ st2, γ1.at γ, _, ws, xs, ps, r1, xs', rfl, hl, hB ▸ rs, hB ▸ R2, hm, fun v ws' rv rws => ?_⟩
            rw [← hB] at rv rws
            have W := Sim.write (K := B.K) (o := .lst ws') (d' := .lst xs') S2 q hv fun H' T e => ⟨ws', e, Reps.tr T rws⟩
            exact h v _ _ (T2.trans W.2) W.1 (Rep.tr W.2 rv)
          · exact h.elim
        · exact h.elim
      · exact h.elim
    · cases ho
  · exact h.elim
/-! ### isinstance -/
theorem dv_ty {H : Hp} {M : Addr → Prop} {γ : Gm} {v : V} {x : DV} {c : CT} {r : Bool} (h : DvR X.K H M γ v x) (e : isiO x c = some r) : ∃ t, TyX X.K H v (.type t) ∧ kitB t c.name = some r := by
  cases x with
  | bad => cases c <;> cases e
  | d l =>
    cases l with
    | dct _ _ => cases c <;> cases e
    | lst xs =>
      obtain ⟨a, rfl, vs, hl, _⟩ := h
      refine ⟨"list", .base (.lst hl), ?_⟩
      cases c <;> cases e <;> decide +kernel
  | v p =>
    have h : Rep X.K H M γ v p := h
    cases h with
    | non => refine ⟨"NoneType", .base .non, ?_⟩; cases c <;> cases e <;> decide +kernel
    | bl b => refine ⟨"bool", .base (.bl b), ?_⟩; cases c <;> cases e <;> decide +kernel
    | int b => refine ⟨"int", .base (.int b), ?_⟩; cases c <;> cases e <;> decide +kernel
    | str b => refine ⟨"str", .base (.str b), ?_⟩; cases c <;> cases e <;> decide +kernel
    | tup hl _ _ => refine ⟨"tuple", .base (.tup hl), ?_⟩; cases c <;> cases e <;> decide +kernel
    | lst hl _ _ => refine ⟨"list", .base (.lst hl), ?_⟩; cases c <;> cases e <;> decide +kernel
    | scr w =>
      have k : kitB "list" c.name = some r := by cases c <;> cases e <;> decide +kernel
      rcases w with ⟨w | ⟨o, w⟩, _⟩ | ⟨o, its, n, w, hc, _⟩
      · exact ⟨"list", .base (.lst w), k⟩
      · exact ⟨"list", .base (.frz w), k⟩
      · exact ⟨"list", .kList w hc, k⟩
    | obj _ => cases c <;> cases e
theorem s_isi {x : Str} {c : CT} {p1 p2 : Pos} (hB : B.K = X.K) (h : PE X (.Call (.Name "isinstance" p1) [a, .Name x p2] [] pos) (tCB (rIsi X.K) (tCons (tE B C ma) (tCons (tC (.ty c.name)) tNil)))) :
    PE X (.Call (.Name "isinstance" p1) [a, .Name x p2] [] pos) (tE B C (.isi ma c)) := by
  refine h.mono fun σ H Qk ⟨γ, st, S, h⟩ => ?_
  rw [ev, wp_bind] at h
  refine ⟨γ, st, S, wp_mono h (fun x st1 h v1 H1 γ1 T1 S1 R1 => ?_) fun _ _ e => e⟩
  have D := ErR.dv S1 R1
  cases q : isiO (x.get st1) c with
  | none => rw [q] at h; exact h.elim
  | some k =>
    rw [q] at h
    obtain ⟨t, ty, e⟩ := dv_ty (X := X) (hB ▸ D) q
    exact ⟨_, _, _, _, k, rfl, ClsV.ty _, ty, kit_ty e, h _ H1 γ1 T1 S1 (Rep.bl _)⟩
/-! ### methods -/
theorem s_meth1 {m : MF} {o : Expr} {mo : E} {r : V → List V → Hp → VK → Prop} {P : V → Hp → Prop} {e : Expr} (hB : B.K = X.K)
    (h : PE X e (fun σ H Qk => tE B C mo σ H fun x H1 => P x H1 ∧ tL B C ms σ H1 fun vs H2 => r x vs H2 Qk))
    (hP : ∀ H M γ v dv, DvR X.K H M γ v dv → recvOk m dv = true → P v H)
    (hr : ∀ x vs H Qk (M : Addr → Prop) γ dx ds er, DvR X.K H M γ x dx → DvRs X.K H M γ vs ds → (∀ a, M a → H a ≠ none) → methO m dx ds = some er → (∀ v H', Ext H H' → ResR X.K H H' M γ v er → Qk v H') → r x vs H Qk) :
    PE X e (tE B C (.meth m mo ms)) := by
  refine h.mono fun σ H Qk ⟨γ, st, S, h⟩ => ?_
  rw [ev, wp_bind] at h
  refine ⟨γ, st, S, wp_mono h (fun x st1 h v1 H1 γ1 T1 S1 R1 => ?_) fun _ _ e => e⟩
  have R1' : ErR B.K H H1 γ1 σ st1 v1 x := R1
  split at h
  · rename_i ho
    refine ⟨hP _ _ _ _ _ (hB ▸ R1'.dv S1) ho, ?_⟩
    rw [wp_bind] at h
    refine ⟨γ1, st1, S1, wp_mono h (fun xs st2 h vs H2 γ2 T2 S2 R2 => ?_) fun _ _ e => e.trans T1⟩
    cases q : methO m (x.get st2) (xs.map (ER.get st2)) with
    | none => rw [q] at h; exact h.elim
    | some er =>
      rw [q] at h
      have R1'' : ErR B.K H H2 γ2 σ st2 v1 x := ErR.tr T2 R1'
      refine hr _ _ _ _ (Mu γ2 σ st2) γ2 _ _ er (hB ▸ R1''.dv S2) (hB ▸ ErRs.dvs S2 R2) S2.mu0 q fun v H3 E3 R3 => ?_
      rw [← hB] at R3
      obtain ⟨γ3, T3, S3, R⟩ := fin (T1.trans T2) S2 E3 R3
      exact h v H3 γ3 T3 S3 R
  · exact h.elim
end
end Q
end
section
set_option maxHeartbeats 1000000
namespace Q
open PySem PySem.Spec PyProof.Rows
open L2 hiding cutV
/-! ### stores -/
section
variable {K : PySem.W.Frag} {H0 H H' : Hp} {M0 : Addr → Prop} {γ0 γ γ' : Gm} {σ : L2.St} {st st' : ST} {v : V}
theorem get_set_same {σ : L2.St} {i : Nat} {v : V} (h : i < σ.length) : (σ.set i (some v))[i]? = some (some v) := List.getElem?_set_self h
theorem get_set_other {σ : L2.St} {i j : Nat} {o : Option V} (h : j ≠ i) : (σ.set i o)[j]? = σ[j]? := List.getElem?_set_ne (Ne.symm h)
/-- a value is stored -/
theorem Sim.store (S : Sim K H γ σ st) {p : PV} (i : Nat) (r : Rep K H (Mu γ σ st) γ v p) :
    Sim K H γ (σ.set i (some v)) (st.put i (some (.v p))) ∧ Tr H (Mu γ σ st) γ H (Mu γ (σ.set i (some v)) (st.put i (some (.v p)))) γ := by
  have back : ∀ j s, envAt (st.put i (some (.v p))) j = some s → (j = i ∧ s = .v p ∧ i < σ.length) ∨ (j ≠ i ∧ envAt st j = some s) := fun j s e => by
    by_cases hj : j = i
    · subst hj
      by_cases hi : j < st.env.length
      · rw [envAt_same hi] at e
        cases e
        exact .inl ⟨rfl, rfl, by rw [← S.len]; exact hi⟩
      · rw [envAt_out hi] at e; cases e
    · rw [envAt_other hj] at e
      exact .inr ⟨hj, e⟩
  have sub : ∀ a, Mu γ (σ.set i (some v)) (st.put i (some (.v p))) a → Mu γ σ st a := fun a m => by
    rcases m with m | ⟨j, d, e, q⟩
    · exact .inl m
    · rcases back j _ e with ⟨_, z, _⟩ | ⟨hj, z⟩
      · cases z
      · rw [get_set_other hj] at q
        exact .inr ⟨j, d, z, q⟩
  have T : Tr H (Mu γ σ st) γ H (Mu γ (σ.set i (some v)) (st.put i (some (.v p)))) γ := ⟨fun _ _ e _ => e, fun _ e => e, fun _ e => e, fun a m => .inl (sub a m), ⟨[], by simp⟩⟩
  refine ⟨⟨by rw [put_len, List.length_set]; exact S.len, fun j s e => ?_, fun j k d s a e1 e2 q1 q2 => ?_, S.gl, fun j d a e q => ?_, S.g0⟩, T⟩
  · rcases back j s e with ⟨rfl, rfl, hi⟩ | ⟨hj, z⟩
    · exact ⟨v, get_set_same hi, Rep.tr T r⟩
    · obtain ⟨u, hu, r⟩ := S.sv j s z
      refine ⟨u, by rw [get_set_other hj]; exact hu, ?_⟩
      cases s with
      | v p => exact Rep.tr T r
      | own d =>
        obtain ⟨a, e1, r⟩ := r
        exact ⟨a, e1, r.tr' T fun _ e => e⟩
  · rcases back j _ e1 with ⟨_, z, _⟩ | ⟨hj, z1⟩
    · cases z
    · rcases back k _ e2 with ⟨_, z, _⟩ | ⟨hk, z2⟩
      · cases z
      · rw [get_set_other hj] at q1
        rw [get_set_other hk] at q2
        exact S.inj j k d s a z1 z2 q1 q2
  · rcases back j _ e with ⟨_, z, _⟩ | ⟨hj, z⟩
    · cases z
    · rw [get_set_other hj] at q
      exact S.sep j d a z q

/-- a new object is stored: from then on the slot owns it -/
theorem Sim.storeOwn {γs : Gm} (S : Sim K H γ σ st) (T0 : Tr H0 M0 γs H (Mu γ σ st) γ) (Ls : ∀ a, a ∈ γs.lock → H0 a ≠ none) {d : LD} (i : Nat) (r : ErR K H0 H γ σ st v (.own d)) :
    Sim K H (γ.at γs) (σ.set i (some v)) (st.put i (some (.own d))) ∧ Tr H0 M0 γs H (Mu (γ.at γs) (σ.set i (some v)) (st.put i (some (.own d)))) (γ.at γs) := by
  obtain ⟨a, rfl, h0, hl, o⟩ := r
  have ma : Mu γ σ st a := .inl (.inr hl)
  have hn : ¬ (γ.at γs).has a := fun m => by
    rcases m with m | m
    · rw [show (γ.at γs).obj = γ.obj from rfl, S.g0.1] at m; cases m
    · exact Ls a m h0
  have back : ∀ j s, envAt (st.put i (some (.own d))) j = some s → (j = i ∧ s = .own d ∧ i < σ.length) ∨ (j ≠ i ∧ envAt st j = some s) := fun j s e => by
    by_cases hj : j = i
    · subst hj
      by_cases hi : j < st.env.length
      · rw [envAt_same hi] at e
        cases e
        exact .inl ⟨rfl, rfl, by rw [← S.len]; exact hi⟩
      · rw [envAt_out hi] at e; cases e
    · rw [envAt_other hj] at e
      exact .inr ⟨hj, e⟩
  have hm : ∀ b, (γ.at γs).has b → γ.has b := fun b m => by
    rcases m with m | m
    · exact .inl m
    · exact .inr (T0.lock b m)
  have sub : ∀ b, Mu (γ.at γs) (σ.set i (some (.ref a))) (st.put i (some (.own d))) b → Mu γ σ st b := fun b m => by
    rcases m with m | ⟨j, e, h1, q⟩
    · exact .inl (hm b m)
    · rcases back j _ h1 with ⟨rfl, _, hi⟩ | ⟨hj, z⟩
      · rw [get_set_same hi] at q
        cases q
        exact ma
      · rw [get_set_other hj] at q
        exact .inr ⟨j, e, z, q⟩
  have T : Tr H (Mu γ σ st) ⟨γ.obj, []⟩ H (Mu (γ.at γs) (σ.set i (some (.ref a))) (st.put i (some (.own d)))) (γ.at γs) :=
    ⟨fun _ _ e _ => e, fun _ m => absurd m (by simp), fun _ e => e, fun b m => .inl (sub b m), ⟨[], by simp [Gm.at]⟩⟩
  refine ⟨⟨by rw [put_len, List.length_set]; exact S.len, fun j s e => ?_, fun j k d1 d2 b e1 e2 q1 q2 => ?_, fun b m => S.gl b (hm b m), fun j d1 b e q => ?_, S.g0⟩, ⟨T0.keep, fun _ m => m, T0.dom, fun b m => T0.mu b (sub b m), T0.gam⟩⟩
  · rcases back j s e with ⟨rfl, rfl, hi⟩ | ⟨hj, z⟩
    · exact ⟨.ref a, get_set_same hi, a, rfl, (OwnR.gam (γ := γ) (γ' := ⟨γ.obj, []⟩) rfl o).tr' T fun _ e => e⟩
    · obtain ⟨u, hu, r⟩ := S.sv j s z
      refine ⟨u, by rw [get_set_other hj]; exact hu, ?_⟩
      cases s with
      | v p => exact Rep.tr T (Rep.gam (γ := γ) (γ' := ⟨γ.obj, []⟩) rfl r)
      | own d1 =>
        obtain ⟨b, e1, r⟩ := r
        exact ⟨b, e1, (OwnR.gam (γ := γ) (γ' := ⟨γ.obj, []⟩) rfl r).tr' T fun _ e => e⟩
  · rcases back j _ e1 with ⟨rfl, _, hi⟩ | ⟨hj, z1⟩
    · rcases back k _ e2 with ⟨rfl, _, _⟩ | ⟨hk, z2⟩
      · rfl
      · rw [get_set_same hi] at q1
        cases q1
        rw [get_set_other hk] at q2
        exact absurd (.inr hl) (S.sep k d2 a z2 q2)
    · rcases back k _ e2 with ⟨rfl, _, hi⟩ | ⟨hk, z2⟩
      · rw [get_set_same hi] at q2
        cases q2
        rw [get_set_other hj] at q1
        exact absurd (.inr hl) (S.sep j d1 a z1 q1)
      · rw [get_set_other hj] at q1
        rw [get_set_other hk] at q2
        exact S.inj j k d1 d2 b z1 z2 q1 q2
  · rcases back j _ e with ⟨rfl, _, hi⟩ | ⟨hj, z⟩
    · rw [get_set_same hi] at q
      cases q
      exact hn
    · rw [get_set_other hj] at q
      exact fun m => S.sep j d1 b z q (hm b m)
end
end Q
end
section
set_option maxHeartbeats 1000000
namespace Q
open PySem PySem.Spec PyProof.Rows
open L2 hiding cutV
section
variable {K : PySem.W.Frag} {H0 H H' : Hp} {M0 : Addr → Prop} {γ0 γ γ' : Gm} {σ σ' : L2.St} {st st' : ST} {v : V}
/-- other slots' contents where nothing is told -/
theorem Sim.re (S : Sim K H γ σ st) (hl : σ'.length = σ.length) (h : ∀ i s, envAt st i = some s → σ'[i]? = σ[i]?) : Sim K H γ σ' st ∧ Mu γ σ' st = Mu γ σ st := by
  have mu : Mu γ σ' st = Mu γ σ st := by
    funext b
    refine propext ⟨fun m => ?_, fun m => ?_⟩
    · rcases m with m | ⟨j, e, h1, q⟩
      · exact .inl m
      · exact .inr ⟨j, e, h1, by rw [← h j _ h1]; exact q⟩
    · rcases m with m | ⟨j, e, h1, q⟩
      · exact .inl m
      · exact .inr ⟨j, e, h1, by rw [h j _ h1]; exact q⟩
  refine ⟨⟨by rw [S.len, hl], fun i s e => ?_, fun i j d d' a e1 e2 q1 q2 => ?_, S.gl, fun i d a e q => ?_, S.g0⟩, mu⟩
  · obtain ⟨v, hv, r⟩ := S.sv i s e
    exact ⟨v, by rw [h i s e]; exact hv, by rw [mu]; exact r⟩
  · rw [h i _ e1] at q1
    rw [h j _ e2] at q2
    exact S.inj i j d d' a e1 e2 q1 q2
  · rw [h i _ e] at q
    exact S.sep i d a e q
/-- fewer slots told -/
theorem Sim.sub (S : Sim K H γ σ st) (hl : st'.env.length = st.env.length) (hg : st'.g = st.g) (h : ∀ i s, envAt st' i = some s → envAt st i = some s) : Sim K H γ σ st' ∧ Tr H (Mu γ σ st) γ H (Mu γ σ st') γ := by
  have T : Tr H (Mu γ σ st) γ H (Mu γ σ st') γ := ⟨fun _ _ e _ => e, fun _ e => e, fun _ e => e, fun a m => .inl (by
    rcases m with m | ⟨j, e, h1, q⟩
    · exact .inl m
    · exact .inr ⟨j, e, h j _ h1, q⟩), ⟨[], by simp⟩⟩
  refine ⟨⟨by rw [hl, S.len], fun i s e => ?_, fun i j d d' a e1 e2 q1 q2 => S.inj i j d d' a (h _ _ e1) (h _ _ e2) q1 q2, S.gl, fun i d a e q => S.sep i d a (h _ _ e) q, ⟨S.g0.1, by rw [hg]; exact S.g0.2⟩⟩, T⟩
  obtain ⟨v, hv, r⟩ := S.sv i s (h i s e)
  refine ⟨v, hv, ?_⟩
  cases s with
  | v p => exact Rep.tr T r
  | own d =>
    obtain ⟨a, e1, r⟩ := r
    exact ⟨a, e1, r.tr' T fun _ e => e⟩
theorem wipeE_len (e : Env) : ∀ ws : List Nat, (wipeE e ws).length = e.length
  | [] => rfl
  | i :: r => by rw [wipeE, List.length_set, wipeE_len e r]
theorem wipeS_len (ws : List Nat) : (wipeS st ws).env.length = st.env.length := wipeE_len _ _
theorem wipeE_at (e : Env) : ∀ (ws : List Nat) (i : Nat) (s : SV), ((wipeE e ws)[i]?).join = some s → (e[i]?).join = some s ∧ i ∉ ws
  | [], i, s, h => ⟨h, by simp⟩
  | w :: r, i, s, h => by
    rw [wipeE] at h
    by_cases hw : i = w
    · subst hw
      exfalso
      by_cases hi : i < (wipeE e r).length
      · rw [List.getElem?_set_self hi] at h; cases h
      · rw [List.getElem?_eq_none (by simpa using hi)] at h; cases h
    · rw [List.getElem?_set_ne (Ne.symm hw)] at h
      obtain ⟨h1, h2⟩ := wipeE_at e r i s h
      exact ⟨h1, by simp [hw, h2]⟩
theorem wipeS_at {ws : List Nat} {i : Nat} {s : SV} (h : envAt (wipeS st ws) i = some s) : envAt st i = some s ∧ i ∉ ws := wipeE_at st.env ws i s h
theorem Sim.wipe (S : Sim K H γ σ st) (ws : List Nat) : Sim K H γ σ (wipeS st ws) ∧ Tr H (Mu γ σ st) γ H (Mu γ σ (wipeS st ws)) γ :=
  S.sub (wipeS_len ws) rfl fun i s e => (wipeS_at e).1
/-- .. and the true slots' -/
theorem Sim.wiped (S : Sim K H γ σ (wipeS st ws)) (hl : σ'.length = σ.length) (he : L2.wipe σ' ws = L2.wipe σ ws) : Sim K H γ σ' (wipeS st ws) ∧ Mu γ σ' (wipeS st ws) = Mu γ σ (wipeS st ws) := by
  refine S.re hl fun i s e => ?_
  obtain ⟨_, hw⟩ := wipeS_at e
  rw [← wipe_out (σ := σ') (vs := ws) hw, ← wipe_out (σ := σ) (vs := ws) hw, he]
theorem wipe_wipe (σ : L2.St) : ∀ ws : List Nat, L2.wipe (L2.wipe σ ws) ws = L2.wipe σ ws := fun ws => by
  refine List.ext_getElem? fun i => ?_
  by_cases h : i ∈ ws
  · have : ∀ τ : L2.St, τ.length = σ.length → (L2.wipe τ ws)[i]? = if i < σ.length then some none else none := fun τ hτ => by
      rw [← hτ]
      clear hτ
      induction ws with
      | nil => cases h
      | cons w r ih =>
        rw [L2.wipe]
        by_cases hw : w = i
        · subst hw
          by_cases hi : w < τ.length
          · rw [if_pos hi, List.getElem?_set_self (by rw [wipe_length]; exact hi)]
          · rw [if_neg hi, List.getElem?_eq_none (by rw [List.length_set, wipe_length]; omega)]
        · rw [List.getElem?_set_ne hw]
          exact ih (by
            rcases List.mem_cons.mp h with h | h
            · exact absurd h.symm hw
            · exact h)
    rw [this _ (wipe_length _ _), this _ rfl]
  · rw [wipe_out h]
theorem wipe_set {σ : L2.St} {o : Option V} {i : Nat} : ∀ {ws : List Nat}, i ∈ ws → L2.wipe (σ.set i o) ws = L2.wipe σ ws := fun {ws} h => by
  refine List.ext_getElem? fun j => ?_
  by_cases hj : j ∈ ws
  · have : ∀ τ : L2.St, τ.length = σ.length → (L2.wipe τ ws)[j]? = if j < σ.length then some none else none := fun τ hτ => by
      rw [← hτ]
      clear hτ
      clear h
      induction ws with
      | nil => cases hj
      | cons w r ih =>
        rw [L2.wipe]
        by_cases hw : w = j
        · subst hw
          by_cases hi : w < τ.length
          · rw [if_pos hi, List.getElem?_set_self (by rw [wipe_length]; exact hi)]
          · rw [if_neg hi, List.getElem?_eq_none (by rw [List.length_set, wipe_length]; omega)]
        · rw [List.getElem?_set_ne hw]
          exact ih (by
            rcases List.mem_cons.mp hj with h | h
            · exact absurd h.symm hw
            · exact h)
    rw [this _ (by simp), this _ rfl]
  · rw [wipe_out hj, wipe_out hj, List.getElem?_set_ne (fun e => hj (by rw [← e]; exact h))]
/-! ### targets -/
/-- the target's slots -/
def Tg.slots : Tg → List Nat
  | .v i => [i]
  | .t is => is
/-- as HandS reads it -/
def gNames : List Nat → TGs
  | [] => gNil
  | i :: r => gCons (gName i) (gNames r)
def gTg (K : PySem.W.Frag) : Tg → TG
  | .v i => gName i
  | .t is => gTup K is.length (gNames is)
theorem putAll_ok {Qk : L2.St → Hp → Prop} {ws : List Nat} : ∀ {is : List Nat} {xs : List PV} {vs : List V} {σ : L2.St} {st st' : ST}, (∀ i ∈ is, i ∈ ws) → Sim K H γ σ st → Reps K H (Mu γ σ st) γ vs xs → putAll st is xs = some st' →
    (∀ σ', σ'.length = σ.length → L2.wipe σ' ws = L2.wipe σ ws → Sim K H γ σ' st' → Tr H (Mu γ σ st) γ H (Mu γ σ' st') γ → Qk σ' H) → gNames is vs σ H Qk
  | [], xs, vs, σ, st, st', hw, S, r, h, k => by
    cases r with
    | nil =>
      cases h
      exact ⟨rfl, k σ rfl rfl S Tr.refl⟩
    | cons _ _ => cases h
  | i :: is, xs, vs, σ, st, st', hw, S, r, h, k => by
    cases r with
    | nil => cases h
    | cons r rs =>
      obtain ⟨S1, T1⟩ := S.store i r
      exact ⟨_, _, rfl, putAll_ok (fun j hj => hw j (.tail _ hj)) S1 (Reps.tr T1 rs) h fun σ' e1 e2 S2 T2 => k σ' (by rw [e1, List.length_set]) (by rw [e2, wipe_set (hw i (.head _))]) S2 (T1.trans T2)⟩
theorem putAll_len : ∀ {is : List Nat} {xs : List PV} {st st' : ST}, putAll st is xs = some st' → xs.length = is.length
  | [], [], _, _, _ => rfl
  | [], _ :: _, _, _, h => by cases h
  | _ :: _, [], _, _, h => by cases h
  | _ :: is, _ :: xs, _, _, h => by rw [List.length_cons, List.length_cons, putAll_len (is := is) h]
theorem putTo_ok {Qk : L2.St → Hp → Prop} {ws : List Nat} {t : Tg} {x : PV} (hw : ∀ i ∈ t.slots, i ∈ ws) (S : Sim K H γ σ st) (r : Rep K H (Mu γ σ st) γ v x) (h : putTo t x st = some st')
    (k : ∀ σ', σ'.length = σ.length → L2.wipe σ' ws = L2.wipe σ ws → Sim K H γ σ' st' → Tr H (Mu γ σ st) γ H (Mu γ σ' st') γ → Qk σ' H) : gTg K t v σ H Qk := by
  cases t with
  | v i =>
    cases h
    obtain ⟨S1, T1⟩ := S.store i r
    exact k _ (by rw [List.length_set]) (wipe_set (hw i (.head _))) S1 T1
  | t is =>
    unfold putTo at h
    dsimp only at h
    split at h
    · cases r with
      | tup ha n rs =>
        exact ⟨_, _, rfl, SqT.of ha, by rw [rs.len, putAll_len h], putAll_ok hw S rs h k⟩
    · cases h
theorem stTg_put {C : Ctx} {t : Tg} {x : PV} (h : stTg C t x st = some st') : putTo t x st = some st' := by
  unfold stTg at h
  unfold putTo
  cases t with
  | v i =>
    dsimp only at h
    split at h
    · cases h
    · exact h
  | t is =>
    dsimp only at h
    split at h
    · cases h
    · exact h
end
/-! ### iteration -/
def iAny (K : PySem.W.Frag) (te : TE) : TI := fun σ H R => te σ H fun v H1 => (∃ a, v = .ref a ∧ (((∃ xs, SqL K H1 a xs) ∧ R (Itl K a) H1) ∨ ((∃ xs, SqT K H1 a xs) ∧ R (Itt K a) H1))) ∨ ∃ x, v = .str x ∧ R (Its x) H1
theorem pi_any {X : Cx} {tg e : Expr} {te : TE} (he : PE X e te) : PI X tg e (iAny X.K te) := ⟨fun pins s σ H R I h => thn (he.run pins s σ H _ I h) fun v s1 ⟨y, H1, I1, r1, q1⟩ => by
  rcases q1 with ⟨a, rfl, q1⟩ | ⟨x, rfl, q⟩
  · cases r1
    rcases q1 with ⟨⟨xs, hx⟩, q⟩ | ⟨⟨xs, hx⟩, q⟩
    · obtain ⟨its, _, p, _⟩ := I1.list hx
      exact wpAny_pyIter_list p.isList (pi_one (tk := s1.toks) I1 _ (turn_list a _) ⟨_, Heap.get?_push_size _ rfl, rfl, rfl⟩ q)
    · obtain ⟨its, _, p, _⟩ := I1.tuple hx
      exact wpAny_pyIter_tuple (show s1.heap.IsTuple a its.toArray from p) (pi_one (tk := s1.toks) I1 _ (turn_tuple a _) ⟨_, Heap.get?_push_size _ rfl, rfl, rfl⟩ q)
  · obtain ⟨t, rfl⟩ := r1
    cases hA : x.cps.all (· < 128) with
    | false => exact wpAny_pyIter_wide hA (pi_one (tk := s1.toks) I1 _ (turn_str _ x t "str_iterator" (Or.inr rfl)) ⟨_, Heap.get?_push_size _ rfl, rfl, rfl⟩ q)
    | true => exact wpAny_pyIter_ascii hA (pi_one (tk := s1.toks) I1 _ (turn_str _ x t "str_ascii_iterator" (Or.inl rfl)) ⟨_, Heap.get?_push_size _ rfl, rfl, rfl⟩ q)⟩
/-- J goes through xs, now and later -/
def ItR (K : PySem.W.Frag) (J : It) (xs : List PV) (H : Hp) (M : Addr → Prop) (γ : Gm) : Prop := ∀ H' M' γ', Tr H M γ H' M' γ' →
  (∀ i, xs.length ≤ i → J.stop i H') ∧ ∀ i x, xs[i]? = some x → J.go i H' ∧ ∀ v H3, J.yld i H' v H3 → H3 = H' ∧ Rep K H' M' γ' v x
theorem ItR.tr {K : PySem.W.Frag} {J : It} {xs : List PV} {H H1 : Hp} {M M1 : Addr → Prop} {γ γ1 : Gm} (r : ItR K J xs H M γ) (t : Tr H M γ H1 M1 γ1) : ItR K J xs H1 M1 γ1 := fun H' M' γ' T => r H' M' γ' (t.trans T)
def relI (K : PySem.W.Frag) (σ : L2.St) : Hp → Gm → ST → It → List PV → Prop := fun H γ st J xs => ItR K J xs H (Mu γ σ st) ⟨γ.obj, []⟩
theorem Tr.nolock {H : Hp} {M : Addr → Prop} {γ : Gm} {H' : Hp} {M' : Addr → Prop} {γ' : Gm} (T : Tr H M γ H' M' γ') : Tr H M ⟨γ.obj, []⟩ H' M' γ' :=
  ⟨fun a o e n => T.keep a o e (n.elim .inl fun m => absurd m (by simp)), fun _ m => absurd m (by simp), T.dom, T.mu, T.gam⟩
def tI (B : Bs) (C : Ctx) (m : IT) : TI := fun σ H Qk => ∃ γ st, Sim B.K H γ σ st ∧ (evI C m st).wp (okK B σ H γ st (relI B.K σ) Qk) (excK B σ H γ st)
theorem _root_.L2.PI.mono {X : Cx} {tg e : Expr} {t t' : TI} (h : PI X tg e t) (imp : ∀ σ H R, t' σ H R → t σ H R) : PI X tg e t' := ⟨fun pins s σ H R I q => h.run pins s σ H R I (imp σ H R q)⟩
theorem it_ints {K : PySem.W.Frag} {J : It} {f : Nat → Int} {n : Nat} (h1 : ∀ i H, n ≤ i → J.stop i H) (h2 : ∀ i H, i < n → J.go i H) (h3 : ∀ i H v H3, J.yld i H v H3 → H3 = H ∧ v = .int (f i)) {H : Hp} {M : Addr → Prop} {γ : Gm} :
    ItR K J ((List.range n).map fun i => PV.int (f i)) H M γ := fun H' M' γ' T => ⟨fun i hi => h1 i H' (by simpa using hi), fun i x hx => by
  rw [List.getElem?_map] at hx
  obtain ⟨j, hj, rfl⟩ := Option.map_eq_some_iff.mp hx
  obtain ⟨hl, e⟩ := List.getElem?_eq_some_iff.mp hj
  have hl' : i < n := by simpa using hl
  have e' : j = i := by simpa using e.symm
  subst e'
  exact ⟨h2 _ _ hl', fun v H3 y => by
    obtain ⟨a, b⟩ := h3 _ _ _ _ y
    subst b
    exact ⟨a, .int _⟩⟩⟩
theorem it_r {K : PySem.W.Frag} {lo : Int} {n : Nat} {H : Hp} {M : Addr → Prop} {γ : Gm} : ItR K (Itr lo n) (ranged lo n) H M γ :=
  it_ints (f := fun i => lo + i) (fun _ _ h => h) (fun _ _ h => h) fun _ _ _ _ h => h
theorem it_c {K : PySem.W.Frag} {hi : Int} {n : Nat} {H : Hp} {M : Addr → Prop} {γ : Gm} : ItR K (Itc hi (-1) n) (ranged' hi n) H M γ :=
  it_ints (f := fun i => hi - i) (fun _ _ h => h) (fun _ _ h => h) fun i H v H3 h => by
    have h : H3 = H ∧ v = .int (hi + (i : Nat) * (-1)) := h
    exact ⟨h.1, by rw [h.2]; congr 1; omega⟩
end Q
end
section
set_option maxHeartbeats 1000000
namespace Q
open PySem PySem.Spec PyProof.Rows
open L2 hiding cutV
/-- no star ahead of it -/
def isStar : Expr → Bool
  | .Starred _ _ => true
  | _ => false
theorem star_of {a : Expr} (h : isStar a = false) (es : List Expr) (env : PySem.Env) : starEach (a :: es) env = (false, eval a env) :: starEach es env := by
  cases a <;> first
    | rfl
    | cases h
section
variable {K : PySem.W.Frag} {H0 H H' : Hp} {M : Addr → Prop} {γ γ' : Gm} {σ σ' : L2.St} {st st' : ST} {v : V} {a : Addr}
theorem rep_lst {xs : List PV} (h : Rep K H M γ (.ref a) (.lst xs)) : ∃ vs, SqL K H a vs ∧ Reps K H M γ vs xs := by
  cases h with
  | lst h n r => exact ⟨_, SqL.of h, r⟩
theorem rep_scr {ns : List Int} (h : Rep K H M γ (.ref a) (.scr ns)) : ∃ vs, SqL K H a vs ∧ Reps K H M γ vs (ns.map .int) := by
  cases h with
  | scr h =>
    rcases h with ⟨h, n⟩ | h
    · exact ⟨_, .inl h, Reps.ints _⟩
    · exact ⟨_, h.sq, Reps.ints _⟩
theorem rep_tup {xs : List PV} (h : Rep K H M γ (.ref a) (.tup xs)) : ∃ vs, SqT K H a vs ∧ Reps K H M γ vs xs := by
  cases h with
  | tup h n r => exact ⟨_, SqT.of h, r⟩
theorem it_t {xs : List PV} (r : Rep K H M γ (.ref a) (.tup xs)) : ItR K (Itt K a) xs H M γ := fun H' M' γ' T => by
  obtain ⟨vs, h, rs⟩ := rep_tup (r.tr T)
  refine ⟨fun i hi => ⟨vs, h, by rw [rs.len]; exact hi⟩, fun i x hx => ?_⟩
  obtain ⟨z, hz, rz⟩ := rs.get hx
  refine ⟨⟨vs, z, h, hz⟩, fun w H3 ⟨e, y⟩ => ⟨e, ?_⟩⟩
  have := y vs h
  rw [hz] at this
  cases this
  exact rz
theorem it_l' {p : PV} {xs : List PV} (r : Rep K H M γ (.ref a) p) (hs : ∀ H M γ, Rep K H M γ (.ref a) p → ∃ vs, SqL K H a vs ∧ Reps K H M γ vs xs) : ItR K (Itl K a) xs H M γ := fun H' M' γ' T => by
  obtain ⟨vs, h, rs⟩ := hs _ _ _ (r.tr T)
  refine ⟨fun i hi => ⟨vs, h, by rw [rs.len]; exact hi⟩, fun i x hx => ?_⟩
  obtain ⟨z, hz, rz⟩ := rs.get hx
  refine ⟨⟨vs, z, h, hz⟩, fun w H3 ⟨e, y⟩ => ⟨e, ?_⟩⟩
  have := y vs h
  rw [hz] at this
  cases this
  exact rz
theorem it_s {z : Str} : ItR K (Its z) (z.cps.toList.map fun c => PV.str ⟨#[c]⟩) H M γ := fun H' M' γ' T => by
  refine ⟨fun i hi => (by simpa using hi : z.cps.size ≤ i), fun i x hx => ?_⟩
  rw [List.getElem?_map] at hx
  obtain ⟨c, hc, rfl⟩ := Option.map_eq_some_iff.mp hx
  rw [Array.getElem?_toList] at hc
  refine ⟨(Array.getElem?_eq_some_iff.mp hc).1, fun w H3 ⟨e, d, hd, ew⟩ => ⟨e, ?_⟩⟩
  rw [hc] at hd
  cases hd
  subst ew
  exact .str _
/-- a value that is gone through -/
theorem it_any {p : PV} {xs : List PV} (r : Rep K H M γ v p) (h : itemsOf p = some xs) {R : It → Hp → Prop} (k : ∀ J, ItR K J xs H M γ → R J H) :
    (∃ a, v = .ref a ∧ (((∃ xs, SqL K H a xs) ∧ R (Itl K a) H) ∨ ((∃ xs, SqT K H a xs) ∧ R (Itt K a) H))) ∨ ∃ x, v = .str x ∧ R (Its x) H := by
  cases p <;> first
    | (cases h; done)
    | skip
  · cases h
    cases r
    exact .inr ⟨_, rfl, k _ it_s⟩
  · cases h
    have r' := r
    cases r
    obtain ⟨vs, q, _⟩ := rep_tup r'
    exact .inl ⟨_, rfl, .inr ⟨⟨vs, q⟩, k _ (it_t r')⟩⟩
  · cases h
    have r' := r
    cases r
    obtain ⟨vs, q, _⟩ := rep_lst r'
    exact .inl ⟨_, rfl, .inl ⟨⟨vs, q⟩, k _ (it_l' r' fun _ _ _ => rep_lst)⟩⟩
  · cases h
    have r' := r
    cases r
    obtain ⟨vs, q, _⟩ := rep_scr r'
    exact .inl ⟨_, rfl, .inl ⟨⟨vs, q⟩, k _ (it_l' r' fun _ _ _ => rep_scr)⟩⟩
end
section
variable {X : Cx} {B : Bs} {C : Ctx} {a b d tg : Expr} {ma mb md : E} {pos p : Pos}
theorem s_itseq (hB : B.K = X.K) (ha : PE X a (tE B C ma)) : PI X tg a (tI B C (.seq ma)) := by
  refine (pi_any ha).mono fun σ H R ⟨γ, st, S, h⟩ => ?_
  rw [evI, frzO, wp_bind] at h
  refine ⟨γ, st, S, wp_mono h (fun x st1 h v1 H1 γ1 T1 S1 R1 => ?_) fun _ _ e => e⟩
  split at h
  · rename_i q st2 hf
    obtain ⟨S2, T2, R2⟩ := frz_ok S.lk T1 S1 hf R1
    cases hi : itemsOf q with
    | none => rw [hi] at h; exact h.elim
    | some xs =>
      rw [hi] at h
      rw [← hB]
      exact it_any (γ := ⟨(γ1.at γ).obj, []⟩) (Rep.gam (γ := γ1.at γ) (γ' := ⟨(γ1.at γ).obj, []⟩) rfl R2) hi fun J hJ => h J H1 _ T2 S2 hJ
  · exact h.elim
theorem tL1 {σ : L2.St} {H : Hp} {Qk : List V → Hp → Prop} {γ : Gm} {st : ST} (S : Sim B.K H γ σ st) (h : (ev C ma st).wp (okK B σ H γ st (relE B.K σ H) fun v H' => Qk [v] H') (excK B σ H γ st)) : tL B C (.cons ma .nil) σ H Qk := by
  refine ⟨γ, st, S, ?_⟩
  simp only [evL, wp_bind]
  refine wp_mono h (fun x st1 h v1 H1 γ1 T1 S1 R1 => ?_) fun _ _ e => e
  cases R1 with
  | cons r rs => cases rs; exact h _ H1 γ1 T1 S1 r
theorem s_rng1 (hB : B.K = X.K) (hg : Gl X "range") (hm : X.mg "range" = none) (na : isStar a = false) (ha : PE X a (tE B C ma)) : PI X tg (.Call (.Name "range" p) [a] [] pos) (tI B C (.rng1 ma)) := by
  refine (pi_range1 hg hm (s_cons ha s_nil (star_of na [] X.env)) (star_of na [] X.env)).mono fun σ H R ⟨γ, st, S, h⟩ => ?_
  rw [evI, wp_bind] at h
  refine tL1 S (wp_mono h (fun x st1 h v1 H1 γ1 T1 S1 R1 => ?_) fun _ _ e => e)
  have D := ErR.dv S1 R1
  cases hx : rngO (x.get st1) with
  | none => rw [hx] at h; exact h.elim
  | some xs =>
    rw [hx] at h
    unfold rngO at hx
    split at hx
    · rename_i n q
      rw [q] at D
      cases D
      split at hx
      · rename_i hz
        cases hx
        unfold big line at hz
        exact ⟨n, rfl, by omega, by omega, h _ H1 γ1 T1 S1 it_r⟩
      · cases hx
    · cases hx
theorem dv_int {H : Hp} {M : Addr → Prop} {γ : Gm} {v : V} {dv : DV} {n : Int} (D : DvR B.K H M γ v dv) (q : dv = .v (.int n)) : v = .int n := by
  rw [q] at D
  cases D
  rfl
theorem s_rng2 (hB : B.K = X.K) (hg : Gl X "range") (hm : X.mg "range" = none) (na : isStar a = false) (nb : isStar b = false) (ha : PE X a (tE B C ma)) (hb : PE X b (tE B C mb)) : PI X tg (.Call (.Name "range" p) [a, b] [] pos) (tI B C (.rng2 ma mb)) := by
  refine (pi_range2 hg hm (s_cons ha (s_cons hb s_nil (star_of nb [] X.env)) (star_of na [b] X.env)) ((star_of na [b] X.env).trans (by rw [star_of nb [] X.env]; rfl)) (star_of nb [] X.env)).mono fun σ H R ⟨γ, st, S, h⟩ => ?_
  rw [evI, wp_bind] at h
  refine ⟨γ, st, S, ?_⟩
  simp only [evL, wp_bind]
  refine wp_mono h (fun x st1 h => ?_) fun _ _ e => e
  rw [wp_bind] at h
  refine wp_mono h (fun y st2 h vs H1 γ1 T1 S1 R1 => ?_) fun _ _ e => e
  cases R1 with
  | cons r1 rs =>
    cases rs with
    | cons r2 rs =>
      cases rs
      have D1 := ErR.dv S1 r1
      have D2 := ErR.dv S1 r2
      cases hx : rngO2 (x.get st2) (y.get st2) with
      | none => rw [hx] at h; exact h.elim
      | some xs =>
        rw [hx] at h
        unfold rngO2 at hx
        split at hx
        · rename_i i j q1 q2
          split at hx
          · rename_i hz
            cases hx
            unfold big line at hz
            exact ⟨i, j, by rw [dv_int D1 q1, dv_int D2 q2], by omega, h _ H1 γ1 T1 S1 it_r⟩
          · cases hx
        · cases hx
theorem s_rng3 (hB : B.K = X.K) (hg : Gl X "range") (hm : X.mg "range" = none) (na : isStar a = false) (nb : isStar b = false) (nd : isStar d = false) (ha : PE X a (tE B C ma)) (hb : PE X b (tE B C mb)) (hd : PE X d (tE B C md)) :
    PI X tg (.Call (.Name "range" p) [a, b, d] [] pos) (tI B C (.rng3 ma mb md)) := by
  refine (pi_range3 hg hm (s_cons ha (s_cons hb (s_cons hd s_nil (star_of nd [] X.env)) (star_of nb [d] X.env)) (star_of na [b, d] X.env)) (star_of na [b, d] X.env) (by rw [star_of nb [d] X.env, star_of nd [] X.env]; rfl)).mono fun σ H R ⟨γ, st, S, h⟩ => ?_
  rw [evI, wp_bind] at h
  refine ⟨γ, st, S, ?_⟩
  simp only [evL, wp_bind]
  refine wp_mono h (fun x st1 h => ?_) fun _ _ e => e
  rw [wp_bind] at h
  refine wp_mono h (fun y st2 h => ?_) fun _ _ e => e
  rw [wp_bind] at h
  refine wp_mono h (fun z st3 h vs H1 γ1 T1 S1 R1 => ?_) fun _ _ e => e
  cases R1 with
  | cons r1 rs =>
    cases rs with
    | cons r2 rs =>
      cases rs with
      | cons r3 rs =>
        cases rs
        have D1 := ErR.dv S1 r1
        have D2 := ErR.dv S1 r2
        have D3 := ErR.dv S1 r3
        cases hx : rngO3 (x.get st3) (y.get st3) (z.get st3) with
        | none => rw [hx] at h; exact h.elim
        | some xs =>
          rw [hx] at h
          unfold rngO3 at hx
          split at hx
          · rename_i i j k q1 q2 q3
            split at hx
            · rename_i hz
              cases hx
              unfold big line at hz
              obtain ⟨hk, hz⟩ := hz
              subst hk
              exact ⟨i, j, -1, (i - j).toNat, by rw [dv_int D1 q1, dv_int D2 q2, dv_int D3 q3], RgC.neg (by omega) (by omega) (by omega) (by omega), h _ H1 γ1 T1 S1 it_c⟩
            · cases hx
          · cases hx
theorem s_rev1 {p2 pos2 : Pos} (hB : B.K = X.K) (hg : Gl X "range") (hm : X.mg "range" = none) (hg2 : Gl X "reversed") (hm2 : X.mg "reversed" = none) (na : isStar a = false) (ha : PE X a (tE B C ma)) :
    PI X tg (.Call (.Name "reversed" p2) [.Call (.Name "range" p) [a] [] pos] [] pos2) (tI B C (.rev1 ma)) := by
  refine (pi_revR hg2 hm2 (prg_1 hg hm ha (star_of na [] X.env))).mono fun σ H R ⟨γ, st, S, h⟩ => ?_
  rw [evI, wp_bind] at h
  refine ⟨γ, st, S, wp_mono h (fun x st1 h v1 H1 γ1 T1 S1 R1 => ?_) fun _ _ e => e⟩
  have D := ErR.dv S1 R1
  cases hx : revO (x.get st1) with
  | none => rw [hx] at h; exact h.elim
  | some xs =>
    rw [hx] at h
    unfold revO at hx
    split at hx
    · rename_i n q
      split at hx
      · rename_i hz
        cases hx
        unfold big line at hz
        refine ⟨n, dv_int D q, by decide, by decide, by omega, by omega, h _ H1 γ1 T1 S1 ?_⟩
        have e1 : (n - 0).toNat = n.toNat := by rw [Int.sub_zero]
        rw [e1, Int.zero_add]
        exact it_c
      · cases hx
    · cases hx
end
end Q
end
section
set_option maxHeartbeats 1000000
namespace Q
open PySem PySem.Spec PyProof.Rows
open L2 hiding cutV
section
variable {K : PySem.W.Frag} {H0 H H' : Hp} {M0 : Addr → Prop} {γ0 γ γ' : Gm} {σ σ' : L2.St} {st st' : ST} {v : V}
/-- the block's slots forgotten, in another state of these -/
theorem Sim.back (S : Sim K H γ σ' st) {ws : List Nat} (hl : σ.length = σ'.length) (hw : L2.wipe σ ws = L2.wipe σ' ws) :
    Sim K H γ σ (wipeS st ws) ∧ Tr H (Mu γ σ' st) γ H (Mu γ σ (wipeS st ws)) γ := by
  obtain ⟨S1, T1⟩ := S.wipe ws
  obtain ⟨S2, e⟩ := S1.wiped (σ' := σ) hl hw
  exact ⟨S2, by rw [e]; exact T1⟩
/-- a list that is being made is written -/
theorem Sim.poke (S : Sim K H γ σ st) {D : Addr} {o : HO} (hD : D ∈ γ.lock) : Sim K (upd H D o) γ σ st ∧ Tr H (Mu γ σ st) ⟨γ.obj, []⟩ (upd H D o) (Mu γ σ st) γ := by
  have mD : Mu γ σ st D := .inl (.inr hD)
  have T : Tr H (Mu γ σ st) ⟨γ.obj, []⟩ (upd H D o) (Mu γ σ st) γ := by
    refine ⟨fun a u e n => ?_, fun _ m => absurd m (by simp), fun a e => ?_, fun a m => .inl m, ⟨[], by simp⟩⟩
    · rcases n with n | n
      · rw [upd_ne (fun z => n (by rw [z]; exact mD))]
        exact e
      · cases n
    · by_cases z : a = D
      · subst z
        rw [upd_same] at e
        cases e
      · rw [upd_ne z] at e
        exact e
  refine ⟨⟨S.len, fun i s e => ?_, S.inj, fun a m => ?_, S.sep, S.g0⟩, T⟩
  · obtain ⟨v, hv, r⟩ := S.sv i s e
    refine ⟨v, hv, ?_⟩
    cases s with
    | v p => exact Rep.tr T (Rep.gam (γ := γ) (γ' := ⟨γ.obj, []⟩) rfl r)
    | own d =>
      obtain ⟨a, e1, r⟩ := r
      subst e1
      refine ⟨a, rfl, (OwnR.gam (γ := γ) (γ' := ⟨γ.obj, []⟩) rfl r).tr' T fun u q => ?_⟩
      rw [upd_ne fun z => ?_]
      · exact q
      · subst z
        exact S.sep i d _ e hv (.inr hD)
  · by_cases z : a = D
    · subst z
      exact ⟨_, upd_same⟩
    · obtain ⟨u, e⟩ := S.gl a m
      exact ⟨u, by rw [upd_ne z]; exact e⟩
theorem Tr.poke {M M1 : Addr → Prop} {H1 : Hp} {γ1 : Gm} (T : Tr H1 M1 γ1 H M γ) {D : Addr} {o : HO} (h : H1 D = none) : Tr H1 M1 γ1 (upd H D o) M γ := by
  refine ⟨fun a u e n => ?_, T.lock, fun a e => ?_, T.mu, T.gam⟩
  · rw [upd_ne fun z => by rw [z, h] at e; cases e]
    exact T.keep a u e n
  · by_cases z : a = D
    · subst z
      rw [upd_same] at e
      cases e
    · rw [upd_ne z] at e
      exact T.dom a e
end
theorem noExc_wp {α : Type} (o : Out α) (q : α → ST → Prop) (e : XV → ST → Prop) : (noExc o).wp q e ↔ o.wp q fun _ _ => False := by
  cases o <;> exact Iff.rfl
theorem wp_ex {α : Type} {o : Out α} {q : α → ST → Prop} (h : o.wp q fun _ _ => False) : ∃ a st, q a st := by
  cases o with
  | ok a st => exact ⟨a, st, h⟩
  | exc x st => exact h.elim
  | bad => exact h.elim
theorem lcF_wp {tg : Tg} {ws : List Nat} {t : ST → Out Bool} {k : ST → Out (List PV)} {x : PV} {st : ST} {q : List PV → ST → Prop} {e : XV → ST → Prop} (h : (lcF tg ws t k x st).wp q e) :
    ∃ st', putTo tg x (wipeS st ws) = some st' ∧ (t st').wp (fun b st => if b = true then (k st).wp (fun ps st => q ps (wipeS st ws)) e else q [] (wipeS st ws)) e := by
  unfold lcF at h
  split at h
  · rename_i st' hp
    refine ⟨st', hp, ?_⟩
    rw [wp_bind] at h
    refine wp_mono h (fun b st h => ?_) fun _ _ e => e
    cases b with
    | true =>
      simp only [if_true, wp_bind] at h ⊢
      exact h
    | false => exact h
  · exact h.elim
/-- no wish of an exception -/
def Bs.off (B : Bs) : Bs := { B with W := fun _ _ _ _ => False }
section
variable {B : Bs} {C : Ctx} {ws : List Nat} {tg : Tg} {it : IT} {cond : T} {elt : E}
/-- the comprehension's invariant -/
def LcW (K : PySem.W.Frag) (σ : L2.St) (H1 : Hp) (M1 : Addr → Prop) (γ1 : Gm) (Hb : Hp) (Mb : Addr → Prop) (γb : Gm) (D : Addr) (F : PV → ST → Out (List PV)) (xs : List PV) (Kt : List PV → ST → Prop) (i m : Nat) (H : Hp) : Prop :=
  ∃ acc vs st γ, m = xs.length - i ∧ i ≤ xs.length ∧ Sim K H γ σ st ∧ Tr H1 M1 γ1 H (Mu γ σ st) γ ∧ Tr Hb Mb ⟨γb.obj, []⟩ H (Mu γ σ st) γ ∧ D ∈ γ.lock ∧ H D = some (.lst vs) ∧ Reps K H (Mu γ σ st) γ vs acc ∧
    (mapO F (xs.drop i) st).wp (fun r st' => Kt (acc ++ r) st') fun _ _ => False
theorem mapO_cons {F : PV → ST → Out (List PV)} {xs : List PV} {i : Nat} {x : PV} {st : ST} {q : List PV → ST → Prop} {e : XV → ST → Prop} (hx : xs[i]? = some x) (h : (mapO F (xs.drop i) st).wp q e) :
    (F x st).wp (fun a st => (mapO F (xs.drop (i + 1)) st).wp (fun b st => q (a ++ b) st) e) e := by
  obtain ⟨hl, e'⟩ := List.getElem?_eq_some_iff.mp hx
  rw [List.drop_eq_getElem_cons hl, e', mapO, wp_bind] at h
  refine wp_mono h (fun a st h => ?_) fun _ _ e => e
  rw [wp_bind] at h
  exact h
theorem Tr.poke' {M M1 : Addr → Prop} {H1 H : Hp} {γ γ1 : Gm} (T : Tr H1 M1 ⟨γ1.obj, []⟩ H M γ) {D : Addr} {o : HO} (hD : H1 D = none ∨ M1 D) : Tr H1 M1 ⟨γ1.obj, []⟩ (upd H D o) M γ := by
  refine ⟨fun a u e n => ?_, T.lock, fun a e => ?_, T.mu, T.gam⟩
  · rw [upd_ne fun z => ?_]
    · exact T.keep a u e n
    · subst z
      rcases hD with h | h
      · rw [h] at e; cases e
      · rcases n with n | n
        · exact n h
        · cases n
  · by_cases z : a = D
    · subst z
      rw [upd_same] at e
      cases e
    · rw [upd_ne z] at e
      exact T.dom a e
/-- a turn -/
theorem lc_turn {K : PySem.W.Frag} (hK : B.K = K) {σ : L2.St} {H1 Hb : Hp} {M1 Mb : Addr → Prop} {γ1 γb : Gm} {D : Addr} {xs : List PV} {Kt : List PV → ST → Prop} {i m : Nat} {H : Hp} {J : It} (htg : ∀ i ∈ tg.slots, i ∈ ws)
    (hD : H1 D = none) (hDb : Hb D = none ∨ Mb D) (hz : ∀ r st, Kt r st → r.length ≤ line) (R1 : ItR K J xs Hb Mb ⟨γb.obj, []⟩) (hlt : i < xs.length)
    (w : LcW K σ H1 M1 γ1 Hb Mb γb D (lcF tg ws (fun st => tst C cond st) (fun st => frzO (ev C elt st) fun p st => .ok [p] st)) xs Kt i m H) :
    J.go i H ∧ ∀ v H', J.yld i H v H' → gTg K tg v (L2.wipe σ ws) H' fun σ2 H2 => L2.wipe σ2 ws = L2.wipe σ ws ∧ tT B.off C cond σ2 H2 fun b H3 =>
      if b = true then tE B.off C elt σ2 H3 fun y H4 => ∃ acc, H4 D = some (.lst acc) ∧ acc.length < sizeLine ∧ LcW K σ H1 M1 γ1 Hb Mb γb D (lcF tg ws (fun st => tst C cond st) (fun st => frzO (ev C elt st) fun p st => .ok [p] st)) xs Kt (i + 1) (xs.length - (i + 1)) (upd H4 D (.lst (acc ++ [y])))
      else LcW K σ H1 M1 γ1 Hb Mb γb D (lcF tg ws (fun st => tst C cond st) (fun st => frzO (ev C elt st) fun p st => .ok [p] st)) xs Kt (i + 1) (xs.length - (i + 1)) H3 := by
  subst hK
  obtain ⟨acc, vs, st2, γ2, rfl, hi, S2, T2, Tb, hl, hd, rs, w⟩ := w
  have hx : xs[i]? = some xs[i] := by simp [hlt]
  generalize xs[i] = x at hx
  obtain ⟨_, R⟩ := R1 H _ γ2 Tb
  obtain ⟨go, R⟩ := R i x hx
  have w := mapO_cons hx w
  refine ⟨go, fun v H' y => ?_⟩
  obtain ⟨rfl, rv⟩ := R v H' y
  obtain ⟨S3, T3⟩ := S2.back (σ := L2.wipe σ ws) (ws := ws) (wipe_length _ _) (wipe_wipe _ _)
  obtain ⟨st3, hput, w⟩ := lcF_wp w
  refine putTo_ok htg S3 (rv.tr T3) hput fun σ' el ew S4 T4 => ?_
  rw [wipe_wipe] at ew
  rw [wipe_length] at el
  refine ⟨ew, γ2, st3, S4, ?_⟩
  refine wp_mono w (fun b st4 w k H5 γ5 T5 S5 R5 => ?_) fun _ _ e => e.elim
  have R5 : k = b := R5
  subst R5
  have T25 := T3.trans (T4.trans T5)
  cases k with
  | false =>
    refine L2.iteF ?_
    obtain ⟨S6, T6⟩ := S5.back (σ := σ) (ws := ws) el.symm ew.symm
    exact ⟨acc, vs, _, γ5, rfl, hlt, S6, T2.trans (T25.trans T6), Tb.trans (T25.trans T6), T25.lock _ hl, T25.keep _ _ hd (.inr hl), Reps.tr (T25.trans T6) rs, w⟩
  | true =>
    refine L2.iteT ?_
    simp only [if_true] at w
    rw [frzO, wp_bind] at w
    refine ⟨γ5, st4, S5, wp_mono w (fun er st5 w y H6 γ6 T6 S6 R6 => ?_) fun _ _ e => e.elim⟩
    split at w
    · rename_i p st6 hf
      rw [wp_ok] at w
      obtain ⟨S7, T7, R7⟩ := frz_ok S5.lk T6 S6 hf R6
      have T27 := T25.trans T7
      have hl7 := T27.lock _ hl
      refine ⟨vs, T27.keep _ _ hd (.inr hl), ?_, ?_⟩
      · obtain ⟨r, st9, z⟩ := wp_ex w
        have z := hz _ _ z
        rw [rs.len, sizeL]
        simp only [List.length_append, List.length_cons, List.length_nil] at z
        omega
      · obtain ⟨S8, T8⟩ := S7.poke (o := .lst (vs ++ [y])) hl7
        have S9 := (S8.back (σ := σ) (ws := ws) el.symm ew.symm).1
        have T9 := (S7.back (σ := σ) (ws := ws) el.symm ew.symm).2
        have T89 := (S8.back (σ := σ) (ws := ws) el.symm ew.symm).2
        refine ⟨acc ++ [p], _, _, _, rfl, hlt, S9, (T2.trans (T27.trans T9)).poke hD, (Tb.trans (T27.trans T9)).poke' hDb, hl7, upd_same, ?_, ?_⟩
        · exact Reps.tr (T8.trans T89) (Reps.gam (γ := γ6.at γ5) (γ' := ⟨(γ6.at γ5).obj, []⟩) rfl (Reps.app (Reps.tr T27 rs) (.cons R7 .nil)))
        · refine wp_mono w (fun r st9 z => ?_) fun _ _ e => e
          rw [List.append_assoc]
          exact z
    · exact w.elim
theorem lc_imp (htg : ∀ i ∈ tg.slots, i ∈ ws) {σ : L2.St} {H : Hp} {Qk : VK} (h : tE B C (.lc ws tg it cond elt) σ H Qk) : tLc (tI B C it) (gTg B.K tg) (tT B.off C cond) (tE B.off C elt) ws σ H Qk := by
  obtain ⟨γ, st, S, h⟩ := h
  rw [ev, wp_bind] at h
  refine ⟨γ, st, S, wp_mono h (fun xs st1 h J H1 γ1 T1 S1 R1 D hD => ?_) fun _ _ e => e⟩
  rw [wp_bind, noExc_wp] at h
  generalize hKt : (fun (ps : List PV) (st : ST) => (if ps.length ≤ line then Out.ok (ER.own (LD.lst ps)) st else Out.bad).wp (okK B σ H γ _ (relE B.K σ H) Qk) (excK B σ H γ _)) = Kt at h
  have S0 := S1.hold (upd_ext (o := .lst []) hD) hD ⟨_, upd_same⟩
  refine ⟨LcW B.K σ H1 (Mu γ1 σ st1) γ1 H1 (Mu γ1 σ st1) γ1 D _ xs Kt, ⟨xs.length, [], [], st1, γ1.add D, rfl, Nat.zero_le _, S0.1, S0.2, S0.2.nolock, .head _, upd_same, .nil, h⟩, ?_⟩
  intro i m H2 w
  by_cases hlt : i < xs.length
  · obtain ⟨go, k⟩ := lc_turn rfl htg hD (.inl hD) (fun r st z => by
      rw [← hKt] at z
      split at z
      · assumption
      · exact z.elim) R1 hlt w
    exact .inr ⟨go, _, fun H' n => ⟨_, (by obtain ⟨_, _, _, _, e, _⟩ := w; omega), n⟩, k⟩
  · obtain ⟨acc, vs, st2, γ2, rfl, hi, S2, T2, Tb, hl, hd, rs, w⟩ := w
    have e : i = xs.length := by omega
    subst e
    rw [List.drop_length] at w
    refine .inl ⟨(R1 H2 _ γ2 Tb).1 _ (Nat.le_refl _), ?_⟩
    have w : Kt (acc ++ []) st2 := w
    rw [List.append_nil, ← hKt] at w
    split at w
    · exact w _ H2 γ2 (T1.trans T2) S2 ⟨D, rfl, T1.dom _ hD, hl, vs, hd, rs⟩
    · exact w.elim
theorem lc2_imp {ws1 : List Nat} {tg1 : Tg} {it1 : IT} {cond1 : T} (htg : ∀ i ∈ tg.slots, i ∈ ws) (htg1 : ∀ i ∈ tg1.slots, i ∈ ws1) {σ : L2.St} {H : Hp} {Qk : VK} (h : tE B C (.lc2 ws ws1 tg it cond tg1 it1 cond1 elt) σ H Qk) :
    tLc2 (tI B C it) (gTg B.K tg) (tT B.off C cond) (tI B.off C it1) (gTg B.K tg1) (tT B.off C cond1) (tE B.off C elt) ws ws1 σ H Qk := by
  obtain ⟨γ, st, S, h⟩ := h
  rw [ev, wp_bind] at h
  refine ⟨γ, st, S, wp_mono h (fun xs st1 h J H1 γ1 T1 S1 R1 D hD => ?_) fun _ _ e => e⟩
  rw [wp_bind, noExc_wp] at h
  generalize hKt : (fun (ps : List PV) (st : ST) => (if ps.length ≤ line then Out.ok (ER.own (LD.lst ps)) st else Out.bad).wp (okK B σ H γ _ (relE B.K σ H) Qk) (excK B σ H γ _)) = Kt at h
  have hz : ∀ r st, Kt r st → r.length ≤ line := fun r st z => by
    rw [← hKt] at z
    split at z
    · assumption
    · exact z.elim
  have S0 := S1.hold (upd_ext (o := .lst []) hD) hD ⟨_, upd_same⟩
  generalize hF : (lcF tg ws (fun st => tst C cond st) fun st => (evI C it1 st).bind fun ys st => mapO (lcF tg1 ws1 (fun st => tst C cond1 st) fun st => frzO (ev C elt st) fun p st => Out.ok [p] st) ys st) = F at h
  refine ⟨LcW B.K σ H1 (Mu γ1 σ st1) γ1 H1 (Mu γ1 σ st1) γ1 D F xs Kt, ⟨xs.length, [], [], st1, γ1.add D, rfl, Nat.zero_le _, S0.1, S0.2, S0.2.nolock, .head _, upd_same, .nil, h⟩, ?_⟩
  rintro i m H2 ⟨acc, vs, st2, γ2, rfl, hi, S2, T2, Tb, hl, hd, rs, w⟩
  by_cases hlt : i < xs.length
  · have hx : xs[i]? = some xs[i] := by simp [hlt]
    generalize xs[i] = x at hx
    obtain ⟨_, R⟩ := R1 H2 _ γ2 Tb
    obtain ⟨go, R⟩ := R i x hx
    have w := mapO_cons hx w
    refine .inr ⟨go, LcW B.K σ H1 (Mu γ1 σ st1) γ1 H1 (Mu γ1 σ st1) γ1 D F xs Kt (i + 1) (xs.length - (i + 1)), fun H' n => ⟨_, by omega, n⟩, fun v H' y => ?_⟩
    obtain ⟨rfl, rv⟩ := R v H' y
    obtain ⟨S3, T3⟩ := S2.back (σ := L2.wipe σ ws) (ws := ws) (wipe_length _ _) (wipe_wipe _ _)
    rw [← hF] at w
    obtain ⟨st3, hput, w⟩ := lcF_wp w
    rw [hF] at w
    refine putTo_ok htg S3 (rv.tr T3) hput fun σ' el ew S4 T4 => ?_
    rw [wipe_wipe] at ew
    rw [wipe_length] at el
    refine ⟨ew, γ2, st3, S4, ?_⟩
    refine wp_mono w (fun b st4 w k H5 γ5 T5 S5 R5 => ?_) fun _ _ e => e.elim
    have R5 : k = b := R5
    subst R5
    have T25 := T3.trans (T4.trans T5)
    cases k with
    | false =>
      refine L2.iteF ?_
      obtain ⟨S6, T6⟩ := S5.back (σ := σ) (ws := ws) el.symm ew.symm
      exact ⟨acc, vs, _, γ5, rfl, hlt, S6, T2.trans (T25.trans T6), Tb.trans (T25.trans T6), T25.lock _ hl, T25.keep _ _ hd (.inr hl), Reps.tr (T25.trans T6) rs, w⟩
    | true =>
      refine L2.iteT ?_
      simp only [if_true] at w
      rw [wp_bind] at w
      refine ⟨γ5, st4, S5, wp_mono w (fun ys st5 w J1 H6 γ6 T6 S6 R6 => ?_) fun _ _ e => e.elim⟩
      have T26 := T25.trans T6
      generalize hKt1 : (fun (r : List PV) (st' : ST) => (mapO F (xs.drop (i + 1)) (wipeS st' ws)).wp (fun b st => Kt (r ++ b) st) fun _ _ => False) = Kt1
      have hz1 : ∀ r st, Kt1 r st → r.length ≤ line := fun r st z => by
        rw [← hKt1] at z
        obtain ⟨b, _, z⟩ := wp_ex z
        have := hz _ _ z
        rw [List.length_append] at this
        omega
      have m6 : Mu γ6 σ' st5 D := .inl (.inr (T26.lock _ hl))
      refine ⟨LcW B.K σ' H1 (Mu γ1 σ st1) γ1 H6 (Mu γ6 σ' st5) γ6 D (lcF tg1 ws1 (fun st => tst C cond1 st) (fun st => frzO (ev C elt st) fun p st => Out.ok [p] st)) ys Kt1, ⟨ys.length, acc, vs, st5, γ6, rfl, Nat.zero_le _, S6, T2.trans T26, Tr.refl.nolock, T26.lock _ hl, T26.keep _ _ hd (.inr hl), Reps.tr T26 rs, ?_⟩, ?_⟩
      · refine wp_mono w (fun r st9 z => ?_) fun _ _ e => e
        rw [← hKt1]
        refine wp_mono z (fun b st z => ?_) fun _ _ e => e
        rw [List.append_assoc]
        exact z
      · intro j k H7 w
        by_cases hlt1 : j < ys.length
        · obtain ⟨go, q⟩ := lc_turn (B := B) rfl htg1 hD (.inr m6) hz1 R6 hlt1 w
          exact .inr ⟨go, _, fun H' n => ⟨_, (by obtain ⟨_, _, _, _, e, _⟩ := w; omega), n⟩, q⟩
        · obtain ⟨acc', vs', st7, γ7, rfl, hi7, S7, T7, Tb7, hl7, hd7, rs7, w⟩ := w
          have e : j = ys.length := by omega
          subst e
          rw [List.drop_length] at w
          refine .inl ⟨(R6 H7 _ γ7 Tb7).1 _ (Nat.le_refl _), ?_⟩
          have w : Kt1 (acc' ++ []) st7 := w
          rw [List.append_nil, ← hKt1] at w
          obtain ⟨S8, T8⟩ := S7.back (σ := σ) (ws := ws) el.symm ew.symm
          exact ⟨acc', vs', _, γ7, rfl, hlt, S8, T7.trans T8, (T7.trans T8).nolock, hl7, hd7, Reps.tr T8 rs7, w⟩
  · have e : i = xs.length := by omega
    subst e
    rw [List.drop_length] at w
    refine .inl ⟨(R1 H2 _ γ2 Tb).1 _ (Nat.le_refl _), ?_⟩
    have w : Kt (acc ++ []) st2 := w
    rw [List.append_nil, ← hKt] at w
    split at w
    · exact w _ H2 γ2 (T1.trans T2) S2 ⟨D, rfl, T1.dom _ hD, hl, vs, hd, rs⟩
    · exact w.elim
end
end Q
end
section
set_option maxHeartbeats 1000000
namespace Q
open PySem PySem.Spec PyProof.Rows
open L2 hiding cutV
/-! ### places of arguments -/
theorem env_map (as : List SV) (g : List GI) (k : Nat) : envAt ⟨as.map some, g⟩ k = as[k]? := by
  unfold envAt
  dsimp only
  rw [List.getElem?_map]
  cases as[k]? <;> rfl
theorem val_map {vs : List V} {k : Nat} {v : V} : (vs.map some)[k]? = some (some v) ↔ vs[k]? = some v := by
  rw [List.getElem?_map]
  cases vs[k]? <;> simp
theorem svAll_at {st : ST} : ∀ {es : List ER} {as : List SV}, svAll st es = some as → as.length = es.length ∧ ∀ (k : Nat) (s : SV), as[k]? = some s → ∃ e, es[k]? = some e ∧ e.sv st = some s
  | [], as, h => by
    cases h
    exact ⟨rfl, fun k s e => by simp at e⟩
  | e :: r, as, h => by
    simp only [svAll] at h
    split at h
    · rename_i a b h1 h2
      cases h
      obtain ⟨l, q⟩ := svAll_at (es := r) h2
      refine ⟨by rw [List.length_cons, List.length_cons, l], fun k s z => ?_⟩
      cases k with
      | zero =>
        simp at z
        subst z
        exact ⟨e, rfl, h1⟩
      | succ k =>
        obtain ⟨e', h3, h4⟩ := q k s (by simpa using z)
        exact ⟨e', by simpa using h3, h4⟩
    · cases h
theorem mem_slots {j : Nat} : ∀ {es : List ER}, j ∈ slotsOf es ↔ ∃ k : Nat, es[k]? = some (ER.slot j)
  | [] => by simp [slotsOf]
  | .slot i :: r => by
    rw [slotsOf, List.mem_cons, mem_slots (es := r)]
    constructor
    · rintro (rfl | ⟨k, h⟩)
      · exact ⟨0, rfl⟩
      · exact ⟨k + 1, by simpa using h⟩
    · rintro ⟨k, h⟩
      cases k with
      | zero => simp at h; exact .inl h.symm
      | succ k => exact .inr ⟨k, by simpa using h⟩
  | .v p :: r => by
    rw [slotsOf, mem_slots (es := r)]
    · constructor
      · rintro ⟨k, h⟩
        exact ⟨k + 1, by simpa using h⟩
      · rintro ⟨k, h⟩
        cases k with
        | zero => simp at h
        | succ k => exact ⟨k, by simpa using h⟩
    · intro i h; cases h
  | .own p :: r => by
    rw [slotsOf, mem_slots (es := r)]
    · constructor
      · rintro ⟨k, h⟩
        exact ⟨k + 1, by simpa using h⟩
      · rintro ⟨k, h⟩
        cases k with
        | zero => simp at h
        | succ k => exact ⟨k, by simpa using h⟩
    · intro i h; cases h
theorem back_cons_v {p : PV} {r : List ER} {a : SV} {as : List SV} {st : ST} : back (.v p :: r) (a :: as) st = back r as st := by
  rw [back]
  intro i h; cases h
theorem back_cons_o {d : LD} {r : List ER} {a : SV} {as : List SV} {st : ST} : back (.own d :: r) (a :: as) st = back r as st := by
  rw [back]
  intro i h; cases h
theorem slots_v {p : PV} {r : List ER} : slotsOf (.v p :: r) = slotsOf r := by
  rw [slotsOf]
  intro i h; cases h
theorem slots_o {d : LD} {r : List ER} : slotsOf (.own d :: r) = slotsOf r := by
  rw [slotsOf]
  intro i h; cases h
theorem back_out {j : Nat} : ∀ {es : List ER} {as : List SV} {st : ST}, j ∉ slotsOf es → envAt (back es as st) j = envAt st j
  | [], as, st, h => by cases as <;> rfl
  | e :: r, [], st, h => by cases e <;> rfl
  | .slot i :: r, a :: as, st, h => by
    rw [slotsOf, List.mem_cons] at h
    rw [back, back_out (es := r) (fun z => h (.inr z)), envAt_other fun z => h (.inl z)]
  | .v p :: r, a :: as, st, h => by
    rw [slots_v] at h
    rw [back_cons_v, back_out (es := r) h]
  | .own p :: r, a :: as, st, h => by
    rw [slots_o] at h
    rw [back_cons_o, back_out (es := r) h]
theorem back_len : ∀ {es : List ER} {as : List SV} {st : ST}, (back es as st).env.length = st.env.length ∧ (back es as st).g = st.g
  | [], as, st => by cases as <;> exact ⟨rfl, rfl⟩
  | e :: r, [], st => by cases e <;> exact ⟨rfl, rfl⟩
  | .slot i :: r, a :: as, st => by
    rw [back]
    exact ⟨back_len.1.trans put_len, back_len.2.trans put_g⟩
  | .v p :: r, a :: as, st => by
    rw [back_cons_v]
    exact back_len
  | .own p :: r, a :: as, st => by
    rw [back_cons_o]
    exact back_len
theorem back_at {j : Nat} : ∀ {es : List ER} {as : List SV} {st : ST} {k : Nat}, (slotsOf es).Nodup → as.length = es.length → es[k]? = some (ER.slot j) → j < st.env.length → envAt (back es as st) j = as[k]?
  | [], as, st, k, nd, hl, h, hj => by simp at h
  | e :: r, [], st, k, nd, hl, h, hj => by simp at hl
  | .slot i :: r, a :: as, st, k, nd, hl, h, hj => by
    rw [slotsOf, List.nodup_cons] at nd
    rw [back]
    cases k with
    | zero =>
      simp at h
      subst h
      rw [back_out nd.1, envAt_same hj]
      rfl
    | succ k =>
      rw [back_at (k := k) nd.2 (by simpa using hl) (by simpa using h) (by rw [put_len]; exact hj)]
      rfl
  | .v p :: r, a :: as, st, k, nd, hl, h, hj => by
    rw [slots_v] at nd
    rw [back_cons_v]
    cases k with
    | zero => simp at h
    | succ k =>
      rw [back_at (k := k) nd (by simpa using hl) (by simpa using h) hj]
      rfl
  | .own p :: r, a :: as, st, k, nd, hl, h, hj => by
    rw [slots_o] at nd
    rw [back_cons_o]
    cases k with
    | zero => simp at h
    | succ k =>
      rw [back_at (k := k) nd (by simpa using hl) (by simpa using h) hj]
      rfl
theorem slots_one {j k k' : Nat} : ∀ {es : List ER}, (slotsOf es).Nodup → es[k]? = some (ER.slot j) → es[k']? = some (ER.slot j) → k = k' := fun {es} nd h h' => by
  have hl : (List.replicate es.length (SV.v .non)).length = es.length := by simp
  by_cases e : k = k'
  · exact e
  · exfalso
    -- two different fillings would meet
    have hk := (List.getElem?_eq_some_iff.mp h).1
    have hk' := (List.getElem?_eq_some_iff.mp h').1
    let as : List SV := (List.range es.length).map fun (i : Nat) => .v (.int (i : Int))
    have la : as.length = es.length := by simp [as]
    let st : ST := ⟨List.replicate (j + 1) none, []⟩
    have h1 := back_at (st := st) nd la h (by simp [st])
    have h2 := back_at (st := st) nd la h' (by simp [st])
    rw [h1] at h2
    simp [as, hk, hk'] at h2
    omega
/-! ### the addresses that the callee is to leave -/
theorem some_list {P : Addr → Prop} (l : List Addr) (h : ∀ a, P a → a ∈ l) : ∃ L : List Addr, ∀ a, a ∈ L ↔ P a := by
  classical
  exact ⟨l.filter fun a => decide (P a), fun a => by simp; exact fun p => h a p⟩
theorem mu_list {K : PySem.W.Frag} {H : Hp} {γ : Gm} {σ : L2.St} {st : ST} (S : Sim K H γ σ st) : ∃ l : List Addr, ∀ a, Mu γ σ st a → a ∈ l := by
  refine ⟨γ.lock ++ (σ.filterMap fun o => o.bind fun v => match v with | .ref a => some a | _ => none), fun a m => ?_⟩
  rw [List.mem_append, List.mem_filterMap]
  rcases m with (m | m) | ⟨i, d, _, q⟩
  · rw [S.g0.1] at m; cases m
  · exact .inl m
  · exact .inr ⟨some (.ref a), List.mem_of_getElem? q, rfl⟩
end Q
end
section
set_option maxHeartbeats 1000000
namespace Q
open PySem PySem.Spec PyProof.Rows
open L2 hiding cutV
section
variable {K : PySem.W.Frag} {Hs H : Hp} {Ms : Addr → Prop} {γs γ : Gm} {σ : L2.St} {st : ST} {vs : List V} {es : List ER} {as : List SV}
/-- the callee's own world -/
abbrev wor (as : List SV) (g : List GI) : ST := ⟨as.map some, g⟩
/-- what comes back from the callee, seen by the caller -/
structure Home (K : PySem.W.Frag) (Hs : Hp) (Ms : Addr → Prop) (γs : Gm) (H : Hp) (γ : Gm) (σ : L2.St) (st : ST) (vs : List V) (es : List ER) (as : List SV) (γc : Gm) : Prop where
  out : ∀ (as' : List SV) (g' : List GI) (H' : Hp) (γ' : Gm) (lk : List Addr), Tr H (Mu γc (vs.map some) (wor as st.g)) γc H' (Mu γ' (vs.map some) (wor as' g')) γ' → Sim K H' γ' (vs.map some) (wor as' g') →
    (∀ a, a ∈ γs.lock → a ∈ lk) → (∀ a, a ∈ lk → a ∈ γs.lock ∨ (a ∈ γ'.lock ∧ H a = none)) →
    Sim K H' ⟨γ'.obj, lk⟩ σ (back es as' { st with g := g' }) ∧ Tr Hs Ms γs H' (Mu ⟨γ'.obj, lk⟩ σ (back es as' { st with g := g' })) ⟨γ'.obj, lk⟩ ∧
      ∀ a, Mu ⟨γ'.obj, lk⟩ σ (back es as' { st with g := g' }) a → Mu γ' (vs.map some) (wor as' g') a
theorem call_in (Ls : ∀ a, a ∈ γs.lock → Hs a ≠ none) (T : Tr Hs Ms γs H (Mu γ σ st) γ) (S : Sim K H γ σ st) (R : ErRs K Hs H γ σ st vs es) (ha : svAll st es = some as) (nd : (slotsOf es).Nodup) :
    ∃ γc, Sim K H γc (vs.map some) (wor as st.g) ∧ Home K Hs Ms γs H γ σ st vs es as γc := by
  obtain ⟨la, at_⟩ := svAll_at ha
  have lv := R.len
  -- an argument that is a list or a dict of its own: where it comes from
  have own : ∀ (k : Nat) (d : LD), as[k]? = some (.own d) → (∃ a, es[k]? = some (.own d) ∧ vs[k]? = some (.ref a) ∧ Hs a = none ∧ a ∈ γ.lock ∧ OwnR K H (Mu γ σ st) γ a d) ∨
      ∃ (i : Nat) (a : Addr), es[k]? = some (.slot i) ∧ envAt st i = some (.own d) ∧ vs[k]? = some (.ref a) ∧ σ[i]? = some (some (.ref a)) ∧ OwnR K H (Mu γ σ st) γ a d := fun k d e => by
    obtain ⟨er, h1, h2⟩ := at_ k _ e
    cases er with
    | v p => cases h2
    | own d' =>
      cases h2
      obtain ⟨a, q1, q2, q3, q4⟩ := R.own h1
      exact .inl ⟨a, h1, q1, q2, q3, q4⟩
    | slot i =>
      have h2 : envAt st i = some (.own d) := h2
      obtain ⟨v, hv, r⟩ := R.get h1
      have r : σ[i]? = some (some v) := r
      obtain ⟨u, hu, a, rfl, o⟩ := S.sv i _ h2
      rw [r] at hu
      cases hu
      exact .inr ⟨i, a, h1, h2, hv, r, o⟩
  let Pas : Addr → Prop := fun a => ∃ (k : Nat) (d : LD), as[k]? = some (.own d) ∧ vs[k]? = some (.ref a)
  have pasMu : ∀ a, Pas a → Mu γ σ st a := fun a ⟨k, d, e, q⟩ => by
    rcases own k d e with ⟨b, _, q1, _, q3, _⟩ | ⟨i, b, _, q2, q3, q4, _⟩
    · rw [q] at q1; cases q1; exact .inl (.inr q3)
    · rw [q] at q3; cases q3; exact .inr ⟨i, d, q2, q4⟩
  obtain ⟨l, hl⟩ := mu_list S
  obtain ⟨L, hL⟩ := some_list (P := fun a => Mu γ σ st a ∧ ¬ Pas a) l fun a h => hl a h.1
  have muc : ∀ a, Mu ⟨γ.obj, L⟩ (vs.map some) (wor as st.g) a ↔ Mu γ σ st a := fun a => by
    constructor
    · rintro ((m | m) | ⟨k, d, e, q⟩)
      · exact .inl (.inl m)
      · exact ((hL a).mp m).1
      · rw [env_map] at e
        rw [val_map] at q
        exact pasMu a ⟨k, d, e, q⟩
    · intro m
      by_cases hp : Pas a
      · obtain ⟨k, d, e, q⟩ := hp
        exact .inr ⟨k, d, by rw [env_map]; exact e, val_map.mpr q⟩
      · exact .inl (.inr ((hL a).mpr ⟨m, hp⟩))
  have mueq : Mu ⟨γ.obj, L⟩ (vs.map some) (wor as st.g) = Mu γ σ st := funext fun a => propext (muc a)
  refine ⟨⟨γ.obj, L⟩, ⟨by simp [la, lv], fun k s e => ?_, fun j k d d' a e1 e2 q1 q2 => ?_, fun a m => ?_, fun k d a e q m => ?_, S.g0⟩, ⟨?_⟩⟩
  · -- the arguments stand
    rw [env_map] at e
    rw [mueq]
    obtain ⟨er, h1, h2⟩ := at_ k s e
    obtain ⟨v, hv, r⟩ := R.get h1
    refine ⟨v, val_map.mpr hv, ?_⟩
    cases er with
    | v p =>
      cases h2
      exact Rep.gam (γ := γ) (γ' := ⟨γ.obj, L⟩) rfl r
    | own d =>
      cases h2
      obtain ⟨a, e1, _, _, o⟩ := r
      exact ⟨a, e1, OwnR.gam (γ := γ) (γ' := ⟨γ.obj, L⟩) rfl o⟩
    | slot i =>
      have h2 : envAt st i = some s := h2
      obtain ⟨u, hu, r'⟩ := S.sv i _ h2
      have r : σ[i]? = some (some v) := r
      rw [r] at hu
      cases hu
      cases s with
      | v p => exact Rep.gam (γ := γ) (γ' := ⟨γ.obj, L⟩) rfl r'
      | own d =>
        obtain ⟨a, e1, o⟩ := r'
        exact ⟨a, e1, OwnR.gam (γ := γ) (γ' := ⟨γ.obj, L⟩) rfl o⟩
  · rw [env_map] at e1 e2
    rw [val_map] at q1 q2
    rcases own j d e1 with ⟨b, x1, y1, z1, w1, _⟩ | ⟨i, b, x1, y1, z1, w1, _⟩
    · rcases own k d' e2 with ⟨c, x2, y2, z2, w2, _⟩ | ⟨i2, c, x2, y2, z2, w2, _⟩
      · exact R.apart x1 x2 q1 q2
      · rw [q1] at y1; cases y1
        rw [q2] at z2; cases z2
        exact absurd (.inr w1) (S.sep i2 d' _ y2 w2)
    · rcases own k d' e2 with ⟨c, x2, y2, z2, w2, _⟩ | ⟨i2, c, x2, y2, z2, w2, _⟩
      · rw [q2] at y2; cases y2
        rw [q1] at z1; cases z1
        exact absurd (.inr w2) (S.sep i d _ y1 w1)
      · rw [q1] at z1; cases z1
        rw [q2] at z2; cases z2
        have := S.inj i i2 d d' _ y1 y2 w1 w2
        subst this
        exact slots_one nd x1 x2
  · rcases m with m | m
    · exact S.gl a (.inl m)
    · exact S.muSome ((hL a).mp m).1
  · rw [env_map] at e
    rw [val_map] at q
    rcases m with m | m
    · rw [show (⟨γ.obj, L⟩ : Gm).obj = γ.obj from rfl, S.g0.1] at m; cases m
    · exact ((hL a).mp m).2 ⟨k, d, e, q⟩
  · -- the way back
    intro as' g' H' γ' lk T' S' hk1 hk2
    have l' : as'.length = es.length := by
      have := S'.len
      simp at this
      rw [this, lv]
    have Lg : ∀ a, a ∈ L → a ∈ γ'.lock := fun a m => T'.lock a m
    have lkL : ∀ a, a ∈ γs.lock → a ∈ L := fun a m => (hL a).mpr ⟨.inl (.inr (T.lock a m)), fun ⟨k, d, e, q⟩ => by
      rcases own k d e with ⟨b, _, q1, q2, _⟩ | ⟨i, b, _, q2, q3, q4, _⟩
      · rw [q] at q1; cases q1; exact Ls a m q2
      · rw [q] at q3; cases q3; exact S.sep i d _ q2 q4 (.inr (T.lock a m))⟩
    have lk' : ∀ a, a ∈ lk → a ∈ γ'.lock := fun a m => (hk2 a m).elim (fun z => Lg a (lkL a z)) fun z => z.1
    -- a slot behind the call
    have slot : ∀ (i : Nat) (s : SV), envAt (back es as' { st with g := g' }) i = some s → (∃ (k : Nat) (v : V), es[k]? = some (.slot i) ∧ as'[k]? = some s ∧ vs[k]? = some v ∧ σ[i]? = some (some v)) ∨ (i ∉ slotsOf es ∧ envAt st i = some s) := fun i s e => by
      by_cases hi : i ∈ slotsOf es
      · obtain ⟨k, hk⟩ := mem_slots.mp hi
        have hlt : i < st.env.length := by
          have := envAt_lt e
          rw [back_len.1] at this
          exact this
        rw [back_at (st := { st with g := g' }) nd l' hk hlt] at e
        obtain ⟨v, hv, r⟩ := R.get hk
        exact .inl ⟨k, v, hk, e, hv, r⟩
      · rw [back_out hi] at e
        exact .inr ⟨hi, e⟩
    have stay : ∀ (i : Nat) (d : LD) (a : Addr), i ∉ slotsOf es → envAt st i = some (.own d) → σ[i]? = some (some (.ref a)) → a ∈ L := fun i d a hi e q => (hL a).mpr ⟨.inr ⟨i, d, e, q⟩, fun ⟨k, d', e', q'⟩ => by
      rcases own k d' e' with ⟨b, _, q1, _, q3, _⟩ | ⟨j, b, q0, q2, q3, q4, _⟩
      · rw [q'] at q1; cases q1; exact S.sep i d _ e q (.inr q3)
      · rw [q'] at q3; cases q3
        have := S.inj i j d d' _ e q2 q q4
        subst this
        exact hi (mem_slots.mpr ⟨k, q0⟩)⟩
    have back_ : ∀ a, Mu ⟨γ'.obj, lk⟩ σ (back es as' { st with g := g' }) a → Mu γ' (vs.map some) (wor as' g') a := fun a m => by
      rcases m with (m | m) | ⟨i, d, e, q⟩
      · exact .inl (.inl m)
      · exact .inl (.inr (lk' a m))
      · rcases slot i _ e with ⟨k, v, h1, h2, h3, h4⟩ | ⟨hi, h⟩
        · rw [q] at h4; cases h4
          exact .inr ⟨k, d, by rw [env_map]; exact h2, val_map.mpr h3⟩
        · exact .inl (.inr (Lg a (stay i d a hi h q)))
    have T2 : Tr H (Mu γ σ st) ⟨γ.obj, []⟩ H' (Mu ⟨γ'.obj, lk⟩ σ (back es as' { st with g := g' })) ⟨γ'.obj, lk⟩ := by
      refine ⟨fun a o e n => ?_, fun _ m => absurd m (by simp), T'.dom, fun a m => ?_, T'.gam⟩
      · rcases n with n | n
        · exact T'.keep a o e (.inl fun m => n ((muc a).mp m))
        · cases n
      · rcases T'.mu a (back_ a m) with z | z
        · exact .inl ((muc a).mp z)
        · exact .inr z
    have T3 : Tr H' (Mu γ' (vs.map some) (wor as' g')) ⟨γ'.obj, []⟩ H' (Mu ⟨γ'.obj, lk⟩ σ (back es as' { st with g := g' })) ⟨γ'.obj, lk⟩ :=
      ⟨fun _ _ e _ => e, fun _ m => absurd m (by simp), fun _ e => e, fun a m => .inl (back_ a m), ⟨[], by simp⟩⟩
    have svr : ∀ {v : V} {s : SV}, SvR K H' (Mu γ' (vs.map some) (wor as' g')) γ' v s → SvR K H' (Mu ⟨γ'.obj, lk⟩ σ (back es as' { st with g := g' })) ⟨γ'.obj, lk⟩ v s := fun {v s} r => by
      cases s with
      | v p => exact Rep.tr T3 (Rep.gam (γ := γ') (γ' := ⟨γ'.obj, []⟩) rfl r)
      | own d =>
        obtain ⟨a, e1, o⟩ := r
        exact ⟨a, e1, (OwnR.gam (γ := γ') (γ' := ⟨γ'.obj, []⟩) rfl o).tr' T3 fun _ e => e⟩
    refine ⟨⟨by rw [back_len.1]; exact S.len, fun i s e => ?_, fun i j d d' a e1 e2 q1 q2 => ?_, fun a m => ?_, fun i d a e q m => ?_, ⟨S'.g0.1, back_len.2.trans S'.g0.2⟩⟩, ?_, back_⟩
    · rcases slot i _ e with ⟨k, v, h1, h2, h3, h4⟩ | ⟨hi, h⟩
      · refine ⟨v, h4, svr ?_⟩
        obtain ⟨u, hu, r⟩ := S'.sv k s (by rw [env_map]; exact h2)
        rw [val_map, h3] at hu
        cases hu
        exact r
      · obtain ⟨u, hu, r⟩ := S.sv i s h
        refine ⟨u, hu, ?_⟩
        cases s with
        | v p => exact Rep.tr T2 (Rep.gam (γ := γ) (γ' := ⟨γ.obj, []⟩) rfl r)
        | own d =>
          obtain ⟨a, rfl, o⟩ := r
          exact ⟨a, rfl, (OwnR.gam (γ := γ) (γ' := ⟨γ.obj, []⟩) rfl o).tr' T2 fun o' e' => T'.keep a o' e' (.inr (stay i d a hi h hu))⟩
    · rcases slot i _ e1 with ⟨k, v, h1, h2, h3, h4⟩ | ⟨hi, h⟩
      · rw [q1] at h4; cases h4
        rcases slot j _ e2 with ⟨k2, v2, g1, g2, g3, g4⟩ | ⟨hj, h'⟩
        · rw [q2] at g4; cases g4
          have := S'.inj k k2 d d' a (by rw [env_map]; exact h2) (by rw [env_map]; exact g2) (val_map.mpr h3) (val_map.mpr g3)
          subst this
          rw [h1] at g1
          cases g1
          rfl
        · exact absurd (.inr (Lg a (stay j d' a hj h' q2))) (S'.sep k d a (by rw [env_map]; exact h2) (val_map.mpr h3))
      · rcases slot j _ e2 with ⟨k2, v2, g1, g2, g3, g4⟩ | ⟨hj, h'⟩
        · rw [q2] at g4; cases g4
          exact absurd (.inr (Lg a (stay i d a hi h q1))) (S'.sep k2 d' a (by rw [env_map]; exact g2) (val_map.mpr g3))
        · exact S.inj i j d d' a h h' q1 q2
    · rcases m with m | m
      · exact S'.gl a (.inl m)
      · exact S'.gl a (.inr (lk' a m))
    · rcases slot i _ e with ⟨k, v, h1, h2, h3, h4⟩ | ⟨hi, h⟩
      · rw [q] at h4; cases h4
        refine S'.sep k d a (by rw [env_map]; exact h2) (val_map.mpr h3) ?_
        rcases m with m | m
        · exact .inl m
        · exact .inr (lk' a m)
      · rcases m with m | m
        · rw [show (⟨γ'.obj, lk⟩ : Gm).obj = γ'.obj from rfl, S'.g0.1] at m; cases m
        · rcases hk2 a m with z | ⟨_, z⟩
          · exact S.sep i d a h q (.inr (T.lock a z))
          · obtain ⟨o, ho⟩ := S.muSome (.inr ⟨i, d, h, q⟩)
            rw [z] at ho; cases ho
    · refine ⟨fun a o e n => ?_, hk1, fun a e => T.dom a (T'.dom a e), fun a m => ?_, ?_⟩
      · have e2 := T.keep a o e n
        refine T'.keep a o e2 ?_
        by_cases hm : Mu γ σ st a
        · refine .inr ((hL a).mpr ⟨hm, fun ⟨k, d, e', q⟩ => ?_⟩)
          rcases own k d e' with ⟨b, _, q1, q2, _⟩ | ⟨i, b, _, q2, q3, q4, _⟩
          · rw [q] at q1; cases q1
            rw [e] at q2; cases q2
          · rw [q] at q3; cases q3
            rcases n with n | n
            · rcases T.mu a hm with z | z
              · exact n z
              · rw [e] at z; cases z
            · exact S.sep i d _ q2 q4 (.inr (T.lock a n))
        · exact .inl fun m => hm ((muc a).mp m)
      · rcases T'.mu a (back_ a m) with z | z
        · exact T.mu a ((muc a).mp z)
        · exact .inr (T.dom a z)
      · obtain ⟨e1, h1⟩ := T.gam
        obtain ⟨e2, h2⟩ := T'.gam
        exact ⟨e1 ++ e2, by rw [h2, show (⟨γ.obj, L⟩ : Gm).obj = γ.obj from rfl, h1, List.append_assoc]⟩
end
end Q
end
section
set_option maxHeartbeats 1000000
namespace Q
open PySem PySem.Spec PyProof.Rows
open L2 hiding cutV
/-! ### statements: how they are read -/
/-- the parameters that are never stored anew stand as they were -/
def Kp (C : Ctx) (σ σ' : L2.St) : Prop := ∀ i, C.ro i = true → σ'[i]? = σ[i]?
theorem Kp.refl {C : Ctx} {σ : L2.St} : Kp C σ σ := fun _ _ => rfl
theorem Kp.trans {C : Ctx} {σ σ1 σ2 : L2.St} (a : Kp C σ σ1) (b : Kp C σ1 σ2) : Kp C σ σ2 := fun i h => (b i h).trans (a i h)
/-- a step from one state to the next -/
structure Stp (B : Bs) (C : Ctx) (σ : L2.St) (H : Hp) (γ : Gm) (st : ST) (σ' : L2.St) (H' : Hp) (γ' : Gm) (st' : ST) : Prop where
  tr : Tr H (Mu γ σ st) γ H' (Mu γ' σ' st') γ'
  sim : Sim B.K H' γ' σ' st'
  kp : Kp C σ σ'
theorem Stp.trans {B : Bs} {C : Ctx} {σ σ1 σ2 : L2.St} {H H1 H2 : Hp} {γ γ1 γ2 : Gm} {st st1 st2 : ST} (a : Stp B C σ H γ st σ1 H1 γ1 st1) (b : Stp B C σ1 H1 γ1 st1 σ2 H2 γ2 st2) : Stp B C σ H γ st σ2 H2 γ2 st2 :=
  ⟨a.tr.trans b.tr, b.sim, a.kp.trans b.kp⟩
def sK (B : Bs) (C : Ctx) (σ : L2.St) (H : Hp) (γ : Gm) (st : ST) (D : Ends) : SO → Prop
  | .nx st' => ∀ σ' H' γ', Stp B C σ H γ st σ' H' γ' st' → D.nx σ' H'
  | .ret r st' => ∀ v σ' H' γ', Stp B C σ H γ st σ' H' γ' st' → ErR B.K H H' γ' σ' st' v r → D.rt v H'
  | .bk st' => ∀ σ' H' γ', Stp B C σ H γ st σ' H' γ' st' → D.bk σ' H'
  | .ct st' => ∀ σ' H' γ', Stp B C σ H γ st σ' H' γ' st' → D.ct σ' H'
  | .exc x st' => ∀ cls d σ' H' γ', Stp B C σ H γ st σ' H' γ' st' → XcR B.K B.mg H' (Mu γ' σ' st') γ' x cls d → B.W cls d σ' H'
  | .bad => False
theorem sK.from {B : Bs} {C : Ctx} {σ σ1 : L2.St} {H H1 : Hp} {γ γ1 : Gm} {st st1 : ST} {D : Ends} {o : SO} (h : sK B C σ H γ st D o) (a : Stp B C σ H γ st σ1 H1 γ1 st1) : sK B C σ1 H1 γ1 st1 D o := by
  cases o with
  | nx st' => exact fun σ' H' γ' b => h σ' H' γ' (a.trans b)
  | ret r st' => exact fun v σ' H' γ' b e => h v σ' H' γ' (a.trans b) (e.old a.tr.dom)
  | bk st' => exact fun σ' H' γ' b => h σ' H' γ' (a.trans b)
  | ct st' => exact fun σ' H' γ' b => h σ' H' γ' (a.trans b)
  | exc x st' => exact fun cls d σ' H' γ' b e => h cls d σ' H' γ' (a.trans b) e
  | bad => exact h.elim
def tS (B : Bs) (C : Ctx) (m : S) : TS := fun D σ H => ∃ γ st, Sim B.K H γ σ st ∧ sK B C σ H γ st D (ex C m st)
def tSs (B : Bs) (C : Ctx) (m : SL) : TS := fun D σ H => ∃ γ st, Sim B.K H γ σ st ∧ sK B C σ H γ st D (exs C m st)
theorem _root_.L2.PS.mono {X : Cx} {e : Stmt} {t t' : TS} (h : PS X e t) (imp : ∀ D σ H, t' D σ H → t D σ H) : PS X e t' := ⟨fun pins s σ H D I q => h.run pins s σ H D I (imp D σ H q)⟩
theorem _root_.L2.PSs.mono {X : Cx} {e : List Stmt} {t t' : TS} (h : PSs X e t) (imp : ∀ D σ H, t' D σ H → t D σ H) : PSs X e t' := ⟨fun pins s σ H D I q => h.run pins s σ H D I (imp D σ H q)⟩
/-! ### a def's promise -/
def COut.wp (o : COut) (q : SV → List SV → List GI → Prop) (e : XV → List SV → List GI → Prop) : Prop := match o with
  | .ret r as g => q r as g
  | .exc x as g => e x as g
  | .bad => False
/-- the wish of a callee -/
abbrev Bs.of (K : PySem.W.Frag) (mg : Str → Option Value) (E : XK) : Bs := ⟨K, mg, fun cls d _ H => E cls d H⟩
def spF (K : PySem.W.Frag) (mg : Str → Option Value) (T : Tbl) (n : Nat) (f : Str) : Sp := fun vs H Qk E => ∃ (γ : Gm) (as : List SV) (g : List GI), Sim K H γ (vs.map some) (wor as g) ∧
  (callN T n f as g).wp (fun r as' g' => okK (Bs.of K mg E) (vs.map some) H γ (wor as g) (relE K (vs.map some) H) Qk r.er (wor as' g')) fun x as' g' => excK (Bs.of K mg E) (vs.map some) H γ (wor as g) x (wor as' g')
section
variable {K : PySem.W.Frag} {H0 H H' : Hp} {γ γ' : Gm} {σ σ' : L2.St} {st st' : ST} {v : V} {vs : List V} {as bs as' : List SV} {g : List GI} {re : List Nat}
/-- several lists made values -/
theorem Sim.frzs (S : Sim K H γ σ st) (hl : st'.env.length = st.env.length) (hg : st'.g = st.g)
    (h : ∀ i s, envAt st' i = some s → envAt st i = some s ∨ ∃ xs, s = .v (.lst xs) ∧ envAt st i = some (.own (.lst xs))) : Sim K H γ σ st' ∧ Tr H (Mu γ σ st) γ H (Mu γ σ st') γ := by
  have own : ∀ i d, envAt st' i = some (.own d) → envAt st i = some (.own d) := fun i d e => by
    rcases h i _ e with z | ⟨xs, z, _⟩
    · exact z
    · cases z
  have T : Tr H (Mu γ σ st) γ H (Mu γ σ st') γ := ⟨fun _ _ e _ => e, fun _ e => e, fun _ e => e, fun a m => .inl (by
    rcases m with m | ⟨j, d, e, q⟩
    · exact .inl m
    · exact .inr ⟨j, d, own j d e, q⟩), ⟨[], by simp⟩⟩
  refine ⟨⟨by rw [hl]; exact S.len, fun i s e => ?_, fun j k d s a e1 e2 q1 q2 => S.inj j k d s a (own _ _ e1) (own _ _ e2) q1 q2, S.gl, fun j d a e q => S.sep j d a (own _ _ e) q, ⟨S.g0.1, by rw [hg]; exact S.g0.2⟩⟩, T⟩
  rcases h i s e with z | ⟨xs, rfl, z⟩
  · obtain ⟨u, hu, r⟩ := S.sv i s z
    refine ⟨u, hu, ?_⟩
    cases s with
    | v p => exact Rep.tr T r
    | own d =>
      obtain ⟨a, e1, r⟩ := r
      exact ⟨a, e1, r.tr' T fun _ e => e⟩
  · obtain ⟨u, hu, a, rfl, ws, ha, r⟩ := S.sv i _ z
    refine ⟨_, hu, Rep.lst ha (fun m => ?_) (Reps.tr T r)⟩
    rcases m with m | ⟨k, d, e1, q⟩
    · exact S.sep i _ a z hu m
    · have := S.inj k i d _ a (own _ _ e1) z q hu
      subst this
      rw [e] at e1
      cases e1
theorem frzArgs_at : ∀ {as bs : List SV} {i : Nat}, frzArgs re i as = some bs → bs.length = as.length ∧ ∀ (k : Nat) (s : SV), bs[k]? = some s → ∃ a, as[k]? = some a ∧ (a = s ∨ ∃ xs, s = .v (.lst xs) ∧ a = .own (.lst xs)) ∧ (re.contains (i + k) = true → ∃ p, s = .v p)
  | [], bs, i, h => by
    cases h
    exact ⟨rfl, fun k s e => by simp at e⟩
  | a :: r, bs, i, h => by
    simp only [frzArgs] at h
    split at h
    · rename_i b c h1 h2
      cases h
      obtain ⟨l, q⟩ := frzArgs_at h2
      refine ⟨by rw [List.length_cons, List.length_cons, l], fun k s e => ?_⟩
      cases k with
      | zero =>
        simp at e
        subst e
        refine ⟨a, rfl, ?_⟩
        split at h1
        · unfold frzArg at h1
          split at h1
          · cases h1; exact ⟨.inl rfl, fun _ => ⟨_, rfl⟩⟩
          · cases h1; exact ⟨.inr ⟨_, rfl, rfl⟩, fun _ => ⟨_, rfl⟩⟩
          · cases h1
        · rename_i hc
          cases h1
          exact ⟨.inl rfl, fun z => absurd z hc⟩
      | succ k =>
        obtain ⟨a', h3, h4, h5⟩ := q k s (by simpa using e)
        exact ⟨a', by simpa using h3, h4, fun z => h5 (by rw [show i + 1 + k = i + (k + 1) by omega]; exact z)⟩
    · cases h
theorem finals_at {e : Env} : ∀ {as bs : List SV} {i : Nat}, finals re e i as = some bs → bs.length = as.length ∧ ∀ (k : Nat) (b : SV), bs[k]? = some b → ∃ a, as[k]? = some a ∧ if re.contains (i + k) = true then b = a else (e[i + k]?).join = some b ∧ okBack a b = true
  | [], bs, i, h => by
    cases h
    exact ⟨rfl, fun k s e => by simp at e⟩
  | a :: r, bs, i, h => by
    simp only [finals] at h
    split at h
    · rename_i b c h1 h2
      cases h
      obtain ⟨l, q⟩ := finals_at h2
      refine ⟨by rw [List.length_cons, List.length_cons, l], fun k s e => ?_⟩
      cases k with
      | zero =>
        simp at e
        subst e
        refine ⟨a, rfl, ?_⟩
        rw [Nat.add_zero]
        split at h1
        · rename_i hc
          cases h1
          rw [if_pos hc]
        · rename_i hc
          rw [if_neg hc]
          obtain ⟨y, h3, h4⟩ := Option.bind_eq_some_iff.mp h1
          split at h4
          · rename_i ho
            cases h4
            exact ⟨h3, ho⟩
          · cases h4
      | succ k =>
        obtain ⟨a', h3, h4⟩ := q k s (by simpa using e)
        refine ⟨a', by simpa using h3, ?_⟩
        rw [show i + 1 + k = i + (k + 1) by omega] at h4
        exact h4
    · cases h
/-- into the body: the further names hold nothing yet -/
theorem Sim.begin {N : List Str} {n : Nat} (S : Sim K H γ (vs.map some) (wor bs g)) (hn : N.length = n) (hl : vs.length ≤ n) :
    Sim K H γ (L2.start N vs) ⟨bs.map some ++ List.replicate (n - bs.length) none, g⟩ ∧ Mu γ (L2.start N vs) ⟨bs.map some ++ List.replicate (n - bs.length) none, g⟩ = Mu γ (vs.map some) (wor bs g) := by
  have lb : bs.length = vs.length := by have := S.len; simpa using this
  have at_ : ∀ i s, envAt ⟨bs.map some ++ List.replicate (n - bs.length) none, g⟩ i = some s → bs[i]? = some s := fun i s e => by
    unfold envAt at e
    dsimp only at e
    by_cases hi : i < bs.length
    · rw [List.getElem?_append_left (by simpa using hi), List.getElem?_map] at e
      cases q : bs[i]? with
      | none => rw [q] at e; cases e
      | some b => rw [q] at e; cases e; rfl
    · rw [List.getElem?_append_right (by simpa using hi), List.getElem?_replicate] at e
      split at e <;> cases e
  have at' : ∀ i s, bs[i]? = some s → envAt ⟨bs.map some ++ List.replicate (n - bs.length) none, g⟩ i = some s := fun i s e => by
    have hi := (List.getElem?_eq_some_iff.mp e).1
    unfold envAt
    dsimp only
    rw [List.getElem?_append_left (by simpa using hi), List.getElem?_map, e]
    rfl
  have sg : ∀ i, i < vs.length → (L2.start N vs)[i]? = (vs.map some)[i]? := fun i hi => by
    unfold L2.start
    rw [List.getElem?_append_left (by simpa using hi)]
  have lt : ∀ {i s}, bs[i]? = some s → i < vs.length := fun e => by
    rw [← lb]
    exact (List.getElem?_eq_some_iff.mp e).1
  have mu : Mu γ (L2.start N vs) ⟨bs.map some ++ List.replicate (n - bs.length) none, g⟩ = Mu γ (vs.map some) (wor bs g) := by
    funext a
    refine propext ⟨fun m => ?_, fun m => ?_⟩
    · rcases m with m | ⟨i, d, e, q⟩
      · exact .inl m
      · have e := at_ i _ e
        rw [sg i (lt e)] at q
        exact .inr ⟨i, d, by rw [env_map]; exact e, q⟩
    · rcases m with m | ⟨i, d, e, q⟩
      · exact .inl m
      · rw [env_map] at e
        exact .inr ⟨i, d, at' i _ e, by rw [sg i (lt e)]; exact q⟩
  refine ⟨⟨?_, fun i s e => ?_, fun i j d d' a e1 e2 q1 q2 => ?_, S.gl, fun i d a e q => ?_, S.g0⟩, mu⟩
  · unfold L2.start
    simp only [List.length_append, List.length_map, List.length_replicate]
    omega
  · have e := at_ i s e
    obtain ⟨u, hu, r⟩ := S.sv i s (by rw [env_map]; exact e)
    exact ⟨u, by rw [sg i (lt e)]; exact hu, by rw [mu]; exact r⟩
  · have e1 := at_ _ _ e1
    have e2 := at_ _ _ e2
    rw [sg _ (lt e1)] at q1
    rw [sg _ (lt e2)] at q2
    exact S.inj i j d d' a (by rw [env_map]; exact e1) (by rw [env_map]; exact e2) q1 q2
  · have e := at_ _ _ e
    rw [sg _ (lt e)] at q
    exact S.sep i d a (by rw [env_map]; exact e) q
/-- out of the body -/
theorem Sim.leave (S : Sim K H γ (vs.map some) (wor bs g)) (T : Tr H (Mu γ (vs.map some) (wor bs g)) γ H' (Mu γ' σ' st') γ') (S' : Sim K H' γ' σ' st') (hf : finals re st'.env 0 bs = some as')
    (hσ : ∀ i v, vs[i]? = some v → re.contains i = false → σ'[i]? = some (some v)) (hre : ∀ (i : Nat) (s : SV), bs[i]? = some s → re.contains i = true → ∃ p, s = .v p) {lk : List Addr}
    (h1 : ∀ a, a ∈ γ'.lock → a ∈ lk) (h2 : ∀ a, a ∈ lk → a ∈ γ'.lock ∨ (Mu γ' σ' st' a ∧ ∀ (k : Nat) (d : LD), k < vs.length → re.contains k = false → envAt st' k = some (.own d) → σ'[k]? ≠ some (some (.ref a)))) :
    Sim K H' ⟨γ'.obj, lk⟩ (vs.map some) (wor as' st'.g) ∧ Tr H' (Mu γ' σ' st') ⟨γ'.obj, []⟩ H' (Mu ⟨γ'.obj, lk⟩ (vs.map some) (wor as' st'.g)) ⟨γ'.obj, lk⟩ := by
  have lb : bs.length = vs.length := by have := S.len; simpa using this
  obtain ⟨la, fa⟩ := finals_at hf
  have own : ∀ (k : Nat) (d : LD), as'[k]? = some (.own d) → k < vs.length ∧ re.contains k = false ∧ envAt st' k = some (.own d) := fun k d e => by
    obtain ⟨a, h3, h4⟩ := fa k _ e
    rw [Nat.zero_add] at h4
    have hk := (List.getElem?_eq_some_iff.mp h3).1
    split at h4
    · rename_i hc
      subst h4
      obtain ⟨p, z⟩ := hre k _ h3 hc
      cases z
    · rename_i hc
      exact ⟨by omega, by simpa using hc, h4.1⟩
  have hv : ∀ {k : Nat} {a : Addr}, k < vs.length → re.contains k = false → (vs.map some)[k]? = some (some (.ref a)) → σ'[k]? = some (some (.ref a)) := fun {k a} hk hc q => hσ k _ (val_map.mp q) hc
  have sub : ∀ a, Mu ⟨γ'.obj, lk⟩ (vs.map some) (wor as' st'.g) a → Mu γ' σ' st' a := fun a m => by
    rcases m with (m | m) | ⟨k, d, e, q⟩
    · exact .inl (.inl m)
    · rcases h2 a m with z | z
      · exact .inl (.inr z)
      · exact z.1
    · rw [env_map] at e
      obtain ⟨x1, x2, x3⟩ := own k d e
      exact .inr ⟨k, d, x3, hv x1 x2 q⟩
  have T' : Tr H' (Mu γ' σ' st') ⟨γ'.obj, []⟩ H' (Mu ⟨γ'.obj, lk⟩ (vs.map some) (wor as' st'.g)) ⟨γ'.obj, lk⟩ := ⟨fun _ _ e _ => e, fun _ m => absurd m (by simp), fun _ e => e, fun a m => .inl (sub a m), ⟨[], by simp⟩⟩
  refine ⟨⟨by simp [la, lb], fun k s e => ?_, fun i j d d' a e1 e2 q1 q2 => ?_, fun a m => ?_, fun k d a e q m => ?_, S'.g0⟩, T'⟩
  · rw [env_map] at e
    obtain ⟨a, h3, h4⟩ := fa k s e
    rw [Nat.zero_add] at h4
    split at h4
    · rename_i hc
      subst h4
      obtain ⟨p, rfl⟩ := hre k _ h3 hc
      obtain ⟨u, hu, r⟩ := S.sv k _ (by rw [env_map]; exact h3)
      exact ⟨u, hu, Rep.tr T' (Rep.gam (γ := γ') (γ' := ⟨γ'.obj, []⟩) rfl (Rep.tr T r))⟩
    · rename_i hc
      obtain ⟨u, hu, r⟩ := S'.sv k s h4.1
      obtain ⟨w, hw, _⟩ := S.sv k a (by rw [env_map]; exact h3)
      have := hσ k w (val_map.mp hw) (by simpa using hc)
      rw [hu] at this
      cases this
      refine ⟨u, hw, ?_⟩
      cases s with
      | v p => exact Rep.tr T' (Rep.gam (γ := γ') (γ' := ⟨γ'.obj, []⟩) rfl r)
      | own d =>
        obtain ⟨b, e1, o⟩ := r
        exact ⟨b, e1, (OwnR.gam (γ := γ') (γ' := ⟨γ'.obj, []⟩) rfl o).tr' T' fun _ e => e⟩
  · rw [env_map] at e1 e2
    obtain ⟨x1, x2, x3⟩ := own i d e1
    obtain ⟨y1, y2, y3⟩ := own j d' e2
    exact S'.inj i j d d' a x3 y3 (hv x1 x2 q1) (hv y1 y2 q2)
  · rcases m with m | m
    · exact S'.gl a (.inl m)
    · rcases h2 a m with z | z
      · exact S'.gl a (.inr z)
      · exact S'.muSome z.1
  · rw [env_map] at e
    obtain ⟨x1, x2, x3⟩ := own k d e
    rcases m with m | m
    · exact S'.sep k d a x3 (hv x1 x2 q) (.inl m)
    · rcases h2 a m with z | z
      · exact S'.sep k d a x3 (hv x1 x2 q) (.inr z)
      · exact z.2 k d x1 x2 x3 (hv x1 x2 q)
end
end Q
end
section
set_option maxHeartbeats 1000000
namespace Q
open PySem PySem.Spec PyProof.Rows
open L2 hiding cutV
section
variable {K : PySem.W.Frag} {mg : Str → Option Value} {E : XK} {H0 H H' : Hp} {γ γ' γ'' : Gm} {σ σ' : L2.St} {st st' : ST} {v : V} {vs : List V} {as bs as' : List SV} {g : List GI} {fn : Fn}
theorem Tr.seal {M M' M'' : Addr → Prop} {H'' : Hp} (T : Tr H M γ H' M' γ') (T' : Tr H' M' ⟨γ'.obj, []⟩ H'' M'' γ'') (he : H'' = H') (hk : ∀ a, a ∈ γ'.lock → a ∈ γ''.lock) : Tr H M γ H'' M'' γ'' := by
  subst he
  refine ⟨T.keep, fun a m => hk a (T.lock a m), T.dom, fun a m => ?_, ?_⟩
  · rcases T'.mu a m with z | z
    · exact T.mu a z
    · exact .inr (T.dom a z)
  · obtain ⟨e1, h1⟩ := T.gam
    obtain ⟨e2, h2⟩ := T'.gam
    exact ⟨e1 ++ e2, by rw [h2, show (⟨γ'.obj, []⟩ : Gm).obj = γ'.obj from rfl, h1, List.append_assoc]⟩
theorem fn_out (S : Sim K H γ (vs.map some) (wor bs g)) (T : Tr H (Mu γ (vs.map some) (wor bs g)) γ H' (Mu γ' σ' st') γ') (S' : Sim K H' γ' σ' st') (hnp : vs.length = fn.np)
    (hσ : ∀ i v, vs[i]? = some v → fn.re.contains i = false → σ'[i]? = some (some v)) (hre : ∀ (i : Nat) (s : SV), bs[i]? = some s → fn.re.contains i = true → ∃ p, s = .v p) {r : ER} (R : ErR K H H' γ' σ' st' v r)
    {P Ex : _} (h : (retO fn bs r st').wp P Ex) :
    ∃ r' as' g' γ'', P r' as' g' ∧ Sim K H' γ'' (vs.map some) (wor as' g') ∧ Tr H (Mu γ (vs.map some) (wor bs g)) γ H' (Mu γ'' (vs.map some) (wor as' g')) γ'' ∧ ErR K H H' γ'' (vs.map some) (wor as' g') v r'.er := by
  -- a value
  have val : ∀ {st1 : ST} {p : PV}, Sim K H' γ' σ' st1 → Tr H (Mu γ (vs.map some) (wor bs g)) γ H' (Mu γ' σ' st1) γ' → Rep K H' (Mu γ' σ' st1) γ' v p →
      COut.wp (match finals fn.re st1.env 0 bs with | some bs' => COut.ret (.v p) bs' st1.g | none => .bad) P Ex →
      ∃ r' as' g' γ'', P r' as' g' ∧ Sim K H' γ'' (vs.map some) (wor as' g') ∧ Tr H (Mu γ (vs.map some) (wor bs g)) γ H' (Mu γ'' (vs.map some) (wor as' g')) γ'' ∧ ErR K H H' γ'' (vs.map some) (wor as' g') v r'.er := by
    intro st1 p S1 T1 R1 h
    split at h
    · rename_i as' hf
      obtain ⟨S2, T2⟩ := Sim.leave S T1 S1 hf hσ hre (lk := γ'.lock) (fun _ m => m) fun _ m => .inl m
      exact ⟨_, _, _, _, h, S2, T1.seal T2 rfl fun _ m => m, Rep.tr T2 (Rep.gam (γ := γ') (γ' := ⟨γ'.obj, []⟩) rfl R1)⟩
    · exact h.elim
  unfold retO at h
  cases r with
  | v p => exact val S' T R h
  | own d =>
    dsimp only at h
    split at h
    · rename_i as' hf
      obtain ⟨S2, T2⟩ := Sim.leave S T S' hf hσ hre (lk := γ'.lock) (fun _ m => m) fun _ m => .inl m
      obtain ⟨a, h1, h2, h3, h4⟩ := R
      exact ⟨_, _, _, _, h, S2, T.seal T2 rfl fun _ m => m, a, h1, h2, h3, (OwnR.gam (γ := γ') (γ' := ⟨γ'.obj, []⟩) rfl h4).tr' T2 fun _ e => e⟩
    · exact h.elim
  | slot i =>
    have R : σ'[i]? = some (some v) := R
    dsimp only at h
    split at h
    · split at h
      · rename_i p st1 hf
        obtain ⟨S1, T1, R1⟩ := frzU (v := v) S' hf R
        exact val S1 (T.trans T1) R1 h
      · exact h.elim
    · rename_i hnr
      split at h
      · rename_i s q
        obtain ⟨u, hu, r'⟩ := S'.sv i s q
        rw [R] at hu
        cases hu
        cases s with
        | v p => exact val S' T r' h
        | own d =>
          split at h
          · rename_i as' hf
            obtain ⟨a, rfl, o⟩ := r'
            -- the local list is new
            have hi : ¬ (i < vs.length ∧ fn.re.contains i = false) := fun z => by
              apply hnr
              rw [← hnp, z.2]
              simp [z.1]
            obtain ⟨lf, fa⟩ := finals_at hf
            have own : ∀ (k : Nat) (d : LD), k < vs.length → fn.re.contains k = false → envAt st' k = some (.own d) → σ'[k]? ≠ some (some (.ref a)) := fun k d' hk hc e z => by
              have := S'.inj k i d' d a e q z R
              subst this
              exact hi ⟨hk, hc⟩
            have new : H a = none := by
              rcases T.mu a (.inr ⟨i, d, q, R⟩) with (m | m) | m
              · exact absurd (.inr (T.lock a (by
                  rcases m with m | m
                  · rw [S.g0.1] at m; cases m
                  · exact m))) (S'.sep i d a q R)
              · obtain ⟨k, d0, e, z⟩ := m
                rw [env_map] at e
                have hk := (List.getElem?_eq_some_iff.mp e).1
                have lb : bs.length = vs.length := by have := S.len; simpa using this
                obtain ⟨b, hb⟩ : ∃ b, as'[k]? = some b := ⟨as'[k]'(by omega), by simp⟩
                obtain ⟨y, h3, h4⟩ := fa k b hb
                rw [Nat.zero_add] at h4
                rw [e] at h3
                cases h3
                split at h4
                · rename_i hc
                  obtain ⟨p, z⟩ := hre k _ e hc
                  cases z
                · rename_i hc
                  have hc : fn.re.contains k = false := by simpa using hc
                  have zk := hσ k _ (val_map.mp z) hc
                  cases b with
                  | own d1 => exact absurd zk (own k d1 (by omega) hc h4.1)
                  | v p =>
                    have hb : okBack (.own d0) (.v p) = true := h4.2
                    cases p <;> first
                      | (cases hb; done)
                      | skip
                    obtain ⟨u, hu, ru⟩ := S'.sv k _ h4.1
                    rw [zk] at hu
                    cases hu
                    cases ru with
                    | lst _ n _ => exact absurd (.inr ⟨i, d, q, R⟩) n
              · exact m
            obtain ⟨S2, T2⟩ := Sim.leave S T S' hf hσ hre (lk := a :: γ'.lock) (fun _ m => .tail _ m) fun b m => by
              rcases List.mem_cons.mp m with rfl | m
              · exact .inr ⟨.inr ⟨i, d, q, R⟩, own⟩
              · exact .inl m
            exact ⟨_, _, _, _, h, S2, T.seal T2 rfl fun _ m => .tail _ m, a, rfl, new, .head _, (OwnR.gam (γ := γ') (γ' := ⟨γ'.obj, []⟩) rfl o).tr' T2 fun _ e => e⟩
          · exact h.elim
      · exact h.elim
theorem xcR_tr {M M' : Addr → Prop} {x : XV} {cls : Value} {d : Option Addr} (T : Tr H M ⟨γ.obj, []⟩ H' M' γ') (hk : ∀ a o, H a = some o → H' a = some o) (h : XcR K mg H M γ x cls d) : XcR K mg H' M' γ' x cls d := by
  refine ⟨h.1, ?_⟩
  have := h.2
  revert this
  cases x.arg with
  | none => exact fun z => z
  | some fp =>
    rintro ⟨dd, v, h1, h2, h3⟩
    exact ⟨dd, v, h1, hk _ _ h2, Rep.tr T (Rep.gam (γ := γ) (γ' := ⟨γ.obj, []⟩) rfl h3)⟩
/-- the body answers the promise -/
theorem fn_body {T : Tbl} {n : Nat} {f : Str} {N : List Str} {Qk : VK} (hT : T f = some fn) (hN : N.length = fn.n) (hnp : fn.np ≤ fn.n) (h : spF K mg T (n + 1) f vs H Qk E) :
    tSs (Bs.of K mg E) ⟨callN T n, fn.np, fn.re, whileFuel⟩ fn.body { nx := fun _ H' => Qk .non H', rt := Qk } (L2.start N vs) H := by
  obtain ⟨γ, as, g, S, h⟩ := h
  rw [callN, hT] at h
  dsimp only at h
  split at h
  · rename_i hl
    split at h
    · exact h.elim
    · rename_i bs hb
      obtain ⟨lb, fb⟩ := frzArgs_at hb
      have lv : as.length = vs.length := by have := S.len; simpa using this
      obtain ⟨S1, T1⟩ := S.frzs (st' := wor bs g) (by simp [lb]) rfl fun i s e => by
        rw [env_map] at e ⊢
        obtain ⟨a, h1, h2, _⟩ := fb i s e
        rcases h2 with rfl | ⟨xs, rfl, rfl⟩
        · exact .inl h1
        · exact .inr ⟨xs, rfl, h1⟩
      obtain ⟨S2, mu⟩ := S1.begin (N := N) hN (by omega)
      have hre : ∀ (i : Nat) (s : SV), bs[i]? = some s → fn.re.contains i = true → ∃ p, s = .v p := fun i s e c => by
        obtain ⟨_, _, _, h3⟩ := fb i s e
        exact h3 (by rw [Nat.zero_add]; exact c)
      have lbb : bs.length = fn.np := by omega
      rw [lbb] at S2 mu
      have hS : ∀ {σ' : L2.St}, Kp ⟨callN T n, fn.np, fn.re, whileFuel⟩ (L2.start N vs) σ' → ∀ i v, vs[i]? = some v → fn.re.contains i = false → σ'[i]? = some (some v) := fun {σ'} kp i v e c => by
        have hi := (List.getElem?_eq_some_iff.mp e).1
        rw [kp i (by unfold Ctx.ro; rw [c]; simp; omega)]
        unfold L2.start
        rw [List.getElem?_append_left (by simpa using hi), List.getElem?_map, e]
        rfl
      refine ⟨γ, _, S2, ?_⟩
      have ret : ∀ {r : ER} {st' : ST} {v : V} {σ' : L2.St} {H' : Hp} {γ' : Gm}, Stp (Bs.of K mg E) ⟨callN T n, fn.np, fn.re, whileFuel⟩ (L2.start N vs) H γ ⟨bs.map some ++ List.replicate (fn.n - fn.np) none, g⟩ σ' H' γ' st' → ErR K H H' γ' σ' st' v r →
          (retO fn bs r st').wp (fun r as' g' => okK (Bs.of K mg E) (vs.map some) H γ (wor as g) (relE K (vs.map some) H) Qk r.er (wor as' g')) (fun x as' g' => excK (Bs.of K mg E) (vs.map some) H γ (wor as g) x (wor as' g')) → Qk v H' := by
        intro r st' v σ' H' γ' P R h
        have T2 := P.tr
        rw [mu] at T2
        obtain ⟨r', as', g', γ'', h, S3, T3, R3⟩ := fn_out S1 T2 P.sim (by omega) (hS P.kp) hre R h
        exact h v H' γ'' (T1.trans T3) S3 R3
      generalize exs ⟨callN T n, fn.np, fn.re, whileFuel⟩ fn.body ⟨bs.map some ++ List.replicate (fn.n - fn.np) none, g⟩ = o at h
      cases o with
      | nx st' => exact fun σ' H' γ' P => ret (r := .v .non) P Rep.non h
      | ret r st' => exact fun v σ' H' γ' P R => ret P R h
      | bk st' => exact h.elim
      | ct st' => exact h.elim
      | bad => exact h.elim
      | exc x st' =>
        intro cls d σ' H' γ' P R
        dsimp only at h
        split at h
        · rename_i as' hf
          have T2 := P.tr
          rw [mu] at T2
          obtain ⟨S3, T3⟩ := Sim.leave S1 T2 P.sim hf (hS P.kp) hre (lk := γ'.lock) (fun _ m => m) fun _ m => .inl m
          exact h cls d H' _ (T1.trans (T2.seal T3 rfl fun _ m => m)) S3 (xcR_tr T3 (fun _ _ e => e) R)
        · exact h.elim
  · exact h.elim
end
end Q
end
section
set_option maxHeartbeats 1000000
namespace Q
open PySem PySem.Spec PyProof.Rows
open L2 hiding cutV
/-! ### defs: as HandS has them, with what is said of the guards -/
structure FnG (P : Program) (w : World) (K : PySem.W.Frag) (mg : Str → Option Value) (base : Heap) (CX : CXT) (k : Nat) (f : Addr) (fd : FuncData) (ps : List Str) (sp : Sp) : Prop where
  ln : ∀ vs H Qk E, sp vs H Qk E → vs.length = ps.length
  go : ∀ (A : Around) (outer : List PySem.Env) (s : Shared) (H : Hp) (args : Args) (us : List Value) (vs : List V) (Qk : VK) (E : XK), A.guards = some [] → Room k A → Env0 P w K mg base A outer s H → BindsTo s fd args (ps.zip us) → Vals vs us →
    sp vs H Qk E → codeAny (model P w) A (.call (.ref f) args) (CR CX outer P w H s Qk E) s
theorem FnG.fnOk {P : Program} {w : World} {K : PySem.W.Frag} {mg : Str → Option Value} {base : Heap} {CX : CXT} {k : Nat} {f : Addr} {fd : FuncData} {ps : List Str} {sp : Sp} (F : FnG P w K mg base CX k f fd ps sp)
    (A0 : Around) (h0 : A0.guards = some []) : ∀ (outer : List PySem.Env) (s : Shared) (H : Hp) (args : Args) (us : List Value) (vs : List V) (Qk : VK) (E : XK), Room k A0 → Env0 P w K mg base A0 outer s H → BindsTo s fd args (ps.zip us) → Vals vs us → sp vs H Qk E →
      codeAny (model P w) A0 (.call (.ref f) args) (CR CX outer P w H s Qk E) s := fun outer s H args us vs Qk E => F.go A0 outer s H args us vs Qk E h0
theorem fnG_of {CX : CXT} {P : Program} {w : World} {K : PySem.W.Frag} {mg : Str → Option Value} {base : Heap} {k : Nat} {f : Addr} {x qual : Str} {st : Stmt} {fd : FuncData} {N ps : List Str} {sp : Sp} (F : Fun K x qual st f fd) (S : FnScope N ps (defScope st))
    (ln : ∀ vs H Qk E, sp vs H Qk E → vs.length = ps.length)
    (hb : ∀ (cdv : Value) (A : Around) (outer : List PySem.Env) (s : Shared) (H : Hp) (vs : List V) (Qk : VK) (E : XK), (A.deeper (envOfC qual (defScope st) s.heap.objs.size f cdv)).guards = some [] → Room k (A.deeper (envOfC qual (defScope st) s.heap.objs.size f cdv)) → sp vs H Qk E →
      ∃ t, PSs (cxOf CX P w K mg base N qual (defScope st) f cdv A outer s H E) (defBody st) t ∧ t { nx := fun _ H' => Qk .non H', rt := Qk } (L2.start N vs) H) :
    FnG P w K mg base CX (k + 1) f fd ps sp := by
  obtain ⟨oc, od, kV, doc, pm, an, cdv, ct, osl, rfl, lk, hcd⟩ := F.ex
  refine ⟨ln, fun A outer s H args us vs Qk E hG hr e0 hbd rv hsp => ?_⟩
  have hlen := ln _ _ _ _ hsp
  have inK : K.In s.heap := e0.mod.kin.keeps fun b o e => (e0.bs b o e).1
  have inL : s.heap.NoLimit := e0.mod.nolimit.keeps fun b o e => (e0.bs b o e).1
  have par : ∀ y ∈ ps.zip us, (defScope st).names.lookup y.1 = some .local ∨ ((defScope st).names.lookup y.1 = some .cell ∧ ((cellsFrom (s.heap.objs.size + 1) (defScope st).names []).lookup y.1).isSome = true) := fun y hy =>
    (S.par y.1 (List.of_mem_zip (a := y.1) (b := y.2) hy).1).imp id fun q => ⟨q, PySem.W.cellsFrom_some _ _ _ (Or.inl q)⟩
  refine codeAny_call_function hr.depth (inK _ _ lk) rfl S.co S.gen rfl (PySem.W.codeRec_of inK hcd) (hbd _ _ _ _ (wpAny_newFunctionEnv_cells S.kind par fun env he s1 xc => ?_))
  cases he
  refine ⟨inL.keeps xc.toInCall.keep, codeAny_func ?_⟩
  obtain ⟨t, ht, hq⟩ := hb cdv A outer s H vs Qk E (by
    show (A.deeper _).guards = _
    simpa [Around.deeper] using hG) (hr.deeper _) hsp
  refine wpAny_mono (ht.run [] s1 (L2.start N vs) H _ (inv_start (CX := CX) (E := E) S hr.hd e0 hlen rv xc) hq) (fun fl s' hs => ?_) fun e s' hs => hs
  cases fl with
  | ret u => exact let ⟨v, _, H', J, r, q⟩ := hs; ⟨v, H', J.os, J.bare, J.base, J.hok, r, q⟩
  | next => exact let ⟨_, H', J, q⟩ := hs; ⟨.non, H', J.os, J.bare, J.base, J.hok, rfl, q⟩
  | brk => exact hs.elim fun _ ⟨_, _, q⟩ => q.elim
  | cont => exact hs.elim fun _ ⟨_, _, q⟩ => q.elim
section
variable {X : Cx} {k : Nat} {f : Addr} {fd : FuncData} {ps : List Str} {sp : Sp} {W : WX} {x : Str} {p pos : Pos} {e : Expr} {es : List Expr} {t : TA}
theorem run_fnG {pins : List (Addr × Obj)} {σ : L2.St} {H : Hp} {s : Shared} {Qk : VK} {us : List Value} {vs : List V} {args : Args} {zs : List Value} {ws : List V} (F : FnG X.prog X.w X.K X.mg X.base (L2.CX X.prog X.w) k f fd ps sp) (hG : X.A.guards = some []) (hr : Room k X.A)
    (hb : BindsTo s fd args (ps.zip zs)) (tk : Takes X W) (I : Inv X pins σ H s) (r : Vals ws zs) (h : sp ws H Qk (WE W σ)) : codeAny (model X.prog X.w) X.A (.call (.ref f) args) (fun r s' => match r with
      | .ok (.ret u) => EP X pins σ Qk u s'
      | .ok _ => False
      | .error e => X.xe e s') s := by
  refine codeAny_mono (F.go X.A X.stack s H args zs ws Qk (WE W σ) hG hr I.env0 hb r h) fun r s' hq => ?_
  rcases r with e | fl
  · exact passAt tk σ pins H s e s' I hq
  · cases fl <;> first
      | exact I.after hq
      | exact False.elim hq
/-- f(e, ..) -/
theorem pe_callG (F : FnG X.prog X.w X.K X.mg X.base (L2.CX X.prog X.w) k f fd ps sp) (hG : X.A.guards = some []) (hr : Room k X.A) (hg : Gl X x) (hm : X.mg x = some (.ref f)) (hk : PySem.W.keepIn X.K (.ref f) = true) (hb : Binds X.K fd ps []) (tk : Takes X W)
    (hdb : (x == ("__debug__" : Str)) = false) (ha : PA X es t) (he : ∀ e r, es = e :: r → starEach (e :: r) X.env = (false, eval e X.env) :: starEach r X.env ∧ (backTo pos (starEach r X.env)).any (·.1) = false) (h0 : es = [] → ∀ σ H Qk, t σ H Qk → Qk [] H) : PE X (.Call (.Name x p) es [] pos) (tCallS sp (WE W) t) := by
  refine ⟨fun pins s σ H Qk I h => wpAny_Call_Name_kw (ld_glob I hg hm ?_ hdb)⟩
  have core : ∀ {s1 : Shared} {us : List Value} {vs : List V} {H1 : Hp}, Inv X pins σ H1 s1 → Vals vs us → sp vs H1 Qk (WE W σ) → wpAny (model X.prog X.w) X.A (call (.ref f) us) (EP X pins σ Qk) X.xe s1 := fun {s1 us vs H1} I1 r q => by
    have hl : us.length = ps.length := by
      rw [← r.length]
      exact F.ln _ _ _ _ q
    have b := hb s1 us I1.kIn (by simpa using hl)
    simp only [List.append_nil] at b
    refine wpAny_call (codeAny_mono (run_fnG (us := us) (vs := vs) (Qk := Qk) (pins := pins) F hG hr b tk I1 r q) fun r s' hq => ?_)
    rcases r with e | fl
    · exact hq
    · cases fl <;> exact hq
  cases es with
  | nil =>
    exact PySem.W.callWith_K0 I.kIn hk (core (us := []) I .nil (h0 rfl σ H _ h))
  | cons e r =>
    obtain ⟨h1, h2⟩ := he e r rfl
    exact PySem.W.callWith_K (h₀ := X.base) I.ok.mod.kin hk (thn (ha.run pos pins s σ H _ I h) fun us s1 ⟨vs, H1, I1, r1, q⟩ => ⟨I1.kIn, core I1 r1 q⟩) h1 h2
end
theorem backTo_plain (pos : Pos) (env : PySem.Env) : ∀ es : List Expr, (∀ e ∈ es, isStar e = false) → (backTo pos (starEach es env)).any (·.1) = false
  | [], _ => rfl
  | e :: r, h => by
    have ih := backTo_plain pos env r fun x hx => h x (.tail _ hx)
    rw [star_of (h e (.head _)) r env]
    unfold backTo at ih ⊢
    simpa using ih
/-! ### the call as the small language has it -/
section
variable {X : Cx} {B : Bs} {C : Ctx} {T : Tbl} {n : Nat} {a : Addr} {fd : FuncData} {ps : List Str} {f : Str} {p pos : Pos} {es : List Expr} {ms : EL}
theorem call_ok {K : PySem.W.Frag} {mg : Str → Option Value} {W : WX} {σ : L2.St} {H H1 : Hp} {γ γ1 : Gm} {st st1 : ST} {vs : List V} {xs : List ER} {Qk : VK} (hK : B.K = K) (hM : B.mg = mg) (hW : B.W = W) (S : Sim B.K H γ σ st) (T1 : Tr H (Mu γ σ st) γ H1 (Mu γ1 σ st1) γ1) (S1 : Sim B.K H1 γ1 σ st1)
    (R : ErRs B.K H H1 γ1 σ st1 vs xs) (hc : C.call = callN T n) (h : (callO C f xs st1).wp (okK B σ H γ st (relE B.K σ H) Qk) (excK B σ H γ st)) : spF K mg T n f vs H1 Qk (WE W σ) := by
  subst hK hM hW
  unfold callO at h
  split at h
  · exact h.elim
  · rename_i as ha
    split at h
    · rename_i nd
      obtain ⟨γc, Sc, Hm⟩ := call_in S.lk T1 S1 R ha nd
      refine ⟨γc, as, st1.g, Sc, ?_⟩
      rw [hc] at h
      generalize callN T n f as st1.g = o at h ⊢
      cases o with
      | bad => exact h.elim
      | ret r as' g' =>
        intro v H' γ' T' S' R'
        cases r with
        | v q =>
          obtain ⟨S2, T2, M2⟩ := Hm.out as' g' H' γ' γ.lock T' S' (fun _ m => m) fun _ m => .inl m
          refine h v H' _ T2 S2 ?_
          have R' : Rep B.K H' _ γ' v q := R'
          exact Rep.tr (⟨fun _ _ e _ => e, fun _ m => absurd m (by simp), fun _ e => e, fun a m => .inl (M2 a m), ⟨[], by simp⟩⟩ : Tr H' (Mu γ' (vs.map some) (wor as' g')) ⟨γ'.obj, []⟩ H' _ _) (Rep.gam (γ := γ') (γ' := ⟨γ'.obj, []⟩) rfl R')
        | own d =>
          obtain ⟨a, rfl, h1, h2, o⟩ := R'
          obtain ⟨S2, T2, M2⟩ := Hm.out as' g' H' γ' (a :: γ.lock) T' S' (fun _ m => .tail _ m) fun b m => by
            rcases List.mem_cons.mp m with rfl | m
            · exact .inr ⟨h2, h1⟩
            · exact .inl m
          refine h _ H' _ T2 S2 ⟨a, rfl, T1.dom a h1, .head _, ?_⟩
          exact (OwnR.gam (γ := γ') (γ' := ⟨γ'.obj, []⟩) rfl o).tr' (⟨fun _ _ e _ => e, fun _ m => absurd m (by simp), fun _ e => e, fun a m => .inl (M2 a m), ⟨[], by simp⟩⟩ : Tr H' (Mu γ' (vs.map some) (wor as' g')) ⟨γ'.obj, []⟩ H' _ _) fun _ e => e
      | exc x as' g' =>
        intro cls d H' γ' T' S' R'
        obtain ⟨S2, T2, M2⟩ := Hm.out as' g' H' γ' γ.lock T' S' (fun _ m => m) fun _ m => .inl m
        refine h cls d H' _ T2 S2 ?_
        exact xcR_tr (⟨fun _ _ e _ => e, fun _ m => absurd m (by simp), fun _ e => e, fun a m => .inl (M2 a m), ⟨[], by simp⟩⟩ : Tr H' (Mu γ' (vs.map some) (wor as' g')) ⟨γ'.obj, []⟩ H' _ _) (fun _ _ e => e) R'
    · exact h.elim
theorem s_call (hK : B.K = X.K) (hM : B.mg = X.mg) (hc : C.call = callN T n) (F : FnG X.prog X.w X.K X.mg X.base (L2.CX X.prog X.w) n a fd ps (spF X.K X.mg T n f)) (hG : X.A.guards = some []) (hr : Room n X.A) (hg : Gl X f) (hm : X.mg f = some (.ref a)) (hk : PySem.W.keepIn X.K (.ref a) = true) (hb : Binds X.K fd ps []) (tk : Takes X B.W)
    (hdb : (f == ("__debug__" : Str)) = false) (ha : PA X es (tL B C ms)) (hs : ∀ e ∈ es, isStar e = false) (h0 : es = [] → ms = .nil) : PE X (.Call (.Name f p) es [] pos) (tE B C (.call f ms)) := by
  refine (pe_callG (W := B.W) F hG hr hg hm hk hb tk hdb ha (fun e r he => ?_) fun he σ H Qk h => ?_).mono fun σ H Qk ⟨γ, st, S, h⟩ => ?_
  · subst he
    exact ⟨star_of (hs e (.head _)) r X.env, backTo_plain pos X.env r fun x hx => hs x (.tail _ hx)⟩
  · rw [h0 he] at h
    obtain ⟨γ, st, S, h⟩ := h
    rw [evL] at h
    exact h [] H γ Tr.refl S .nil
  · rw [ev, wp_bind] at h
    exact ⟨γ, st, S, wp_mono h (fun xs st1 h vs H1 γ1 T1 S1 R1 => call_ok hK hM rfl S T1 S1 R1 hc h) fun _ _ e => e⟩
end
end Q
end
section
set_option maxHeartbeats 1000000
namespace Q
open PySem PySem.Spec PyProof.Rows
open L2 hiding cutV
section
variable {K : PySem.W.Frag} {Hs H0 H H' : Hp} {Ms M0 : Addr → Prop} {γs γ0 γ γ' : Gm} {σ σ' : L2.St} {st st' : ST} {v : V}
theorem Tr.seal' {M M' M'' : Addr → Prop} {γ1 γ'' : Gm} {H1 H'' : Hp} (T : Tr H M γ H1 M' γ1) (T' : Tr H1 M' ⟨γ1.obj, []⟩ H'' M'' γ'') (he : H'' = H1) (hk : ∀ a, a ∈ γ.lock → a ∈ γ''.lock) : Tr H M γ H'' M'' γ'' := by
  subst he
  refine ⟨T.keep, hk, T.dom, fun a m => ?_, ?_⟩
  · rcases T'.mu a m with z | z
    · exact T.mu a z
    · exact .inr (T.dom a z)
  · obtain ⟨e1, h1⟩ := T.gam
    obtain ⟨e2, h2⟩ := T'.gam
    exact ⟨e1 ++ e2, by rw [h2, show (⟨γ1.obj, []⟩ : Gm).obj = γ1.obj from rfl, h1, List.append_assoc]⟩
/-- a new object goes into a slot; other new ones stay held -/
theorem Sim.own1 (S : Sim K H γ σ st) {a : Addr} {d : LD} {lk : List Addr} (i : Nat) (hl : a ∈ γ.lock) (o : OwnR K H (Mu γ σ st) γ a d) (h1 : ∀ b, b ∈ lk → b ∈ γ.lock) (h2 : a ∉ lk) :
    Sim K H ⟨γ.obj, lk⟩ (σ.set i (some (.ref a))) (st.put i (some (.own d))) ∧ Tr H (Mu γ σ st) ⟨γ.obj, []⟩ H (Mu ⟨γ.obj, lk⟩ (σ.set i (some (.ref a))) (st.put i (some (.own d)))) ⟨γ.obj, lk⟩ := by
  have ma : Mu γ σ st a := .inl (.inr hl)
  have hm : ∀ b, (⟨γ.obj, lk⟩ : Gm).has b → γ.has b := fun b m => m.imp (fun z => z) fun z => h1 b z
  have slot : ∀ j s, envAt (st.put i (some (.own d))) j = some s → (j = i ∧ s = .own d ∧ i < σ.length) ∨ (j ≠ i ∧ envAt st j = some s) := fun j s e => by
    by_cases hj : j = i
    · subst hj
      by_cases hi : j < st.env.length
      · rw [envAt_same hi] at e
        cases e
        exact .inl ⟨rfl, rfl, by rw [← S.len]; exact hi⟩
      · rw [envAt_out hi] at e; cases e
    · rw [envAt_other hj] at e
      exact .inr ⟨hj, e⟩
  have T : Tr H (Mu γ σ st) ⟨γ.obj, []⟩ H (Mu ⟨γ.obj, lk⟩ (σ.set i (some (.ref a))) (st.put i (some (.own d)))) ⟨γ.obj, lk⟩ := ⟨fun _ _ e _ => e, fun _ m => absurd m (by simp), fun _ e => e, fun b m => .inl (by
    rcases m with m | ⟨j, e, q1, q⟩
    · exact .inl (hm b m)
    · rcases slot j _ q1 with ⟨rfl, _, hi⟩ | ⟨hj, z⟩
      · rw [get_set_same hi] at q
        cases q
        exact ma
      · rw [get_set_other hj] at q
        exact .inr ⟨j, e, z, q⟩), ⟨[], by simp⟩⟩
  refine ⟨⟨by rw [put_len, List.length_set]; exact S.len, fun j s e => ?_, fun j k d1 d2 b e1 e2 q1 q2 => ?_, fun b m => S.gl b (hm b m), fun j d1 b e q m => ?_, S.g0⟩, T⟩
  · rcases slot j s e with ⟨rfl, rfl, hi⟩ | ⟨hj, z⟩
    · exact ⟨.ref a, get_set_same hi, a, rfl, (OwnR.gam (γ := γ) (γ' := ⟨γ.obj, []⟩) rfl o).tr' T fun _ e => e⟩
    · obtain ⟨u, hu, r⟩ := S.sv j s z
      refine ⟨u, by rw [get_set_other hj]; exact hu, ?_⟩
      cases s with
      | v p => exact Rep.tr T (Rep.gam (γ := γ) (γ' := ⟨γ.obj, []⟩) rfl r)
      | own d1 =>
        obtain ⟨b, e1, r⟩ := r
        exact ⟨b, e1, (OwnR.gam (γ := γ) (γ' := ⟨γ.obj, []⟩) rfl r).tr' T fun _ e => e⟩
  · rcases slot j _ e1 with ⟨rfl, _, hi⟩ | ⟨hj, z1⟩
    · rcases slot k _ e2 with ⟨rfl, _, _⟩ | ⟨hk, z2⟩
      · rfl
      · rw [get_set_same hi] at q1
        cases q1
        rw [get_set_other hk] at q2
        exact absurd (.inr hl) (S.sep k d2 a z2 q2)
    · rcases slot k _ e2 with ⟨rfl, _, hi⟩ | ⟨hk, z2⟩
      · rw [get_set_same hi] at q2
        cases q2
        rw [get_set_other hj] at q1
        exact absurd (.inr hl) (S.sep j d1 a z1 q1)
      · rw [get_set_other hj] at q1
        rw [get_set_other hk] at q2
        exact S.inj j k d1 d2 b z1 z2 q1 q2
  · rcases slot j _ e with ⟨rfl, _, hi⟩ | ⟨hj, z⟩
    · rw [get_set_same hi] at q
      cases q
      rcases m with m | m
      · rw [show (⟨γ.obj, lk⟩ : Gm).obj = γ.obj from rfl, S.g0.1] at m; cases m
      · exact h2 m
    · rw [get_set_other hj] at q
      exact S.sep j d1 b z q (hm b m)
/-- new lists stay, the slots' own become values -/
def noSlot (es : List ER) : Prop := ∀ (k i : Nat), es[k]? ≠ some (ER.slot i)
theorem frzSl_ok : ∀ {es ys : List ER} {vs : List V} {st st' : ST}, Sim K H γ σ st → frzSl es st = some (ys, st') → ErRs K Hs H γ σ st vs es →
    Sim K H γ σ st' ∧ Tr H (Mu γ σ st) γ H (Mu γ σ st') γ ∧ ErRs K Hs H γ σ st' vs ys ∧ noSlot ys ∧ ∀ (k : Nat) (d : LD), ys[k]? = some (ER.own d) → es[k]? = some (ER.own d)
  | [], ys, _, st, st', S, h, r => by
    cases r
    cases h
    exact ⟨S, Tr.refl, .nil, fun k i e => by simp at e, fun k d e => by simp at e⟩
  | e :: es, ys, _, st, st', S, h, r => by
    cases r with
    | @cons v0 vs0 _ _ r rs hn =>
      -- the rest behind a head that is no slot
      have rest : ∀ {zs : List ER} {st2 : ST}, (∀ i, e ≠ .slot i) → frzSl es st = some (zs, st2) → ys = e :: zs → st' = st2 →
          Sim K H γ σ st' ∧ Tr H (Mu γ σ st) γ H (Mu γ σ st') γ ∧ ErRs K Hs H γ σ st' (v0 :: vs0) ys ∧ noSlot ys ∧ ∀ (k : Nat) (d : LD), ys[k]? = some (ER.own d) → (e :: es)[k]? = some (ER.own d) := by
        intro zs st2 hs e2 hy hst
        subst hy hst
        obtain ⟨S2, T2, R2, n2, o2⟩ := frzSl_ok S e2 rs
        refine ⟨S2, T2, .cons (r.tr T2) R2 fun hd k d' h => hn hd k d' (o2 k d' h), fun k i => ?_, fun k d => ?_⟩
        · cases k with
          | zero => simpa using fun z => hs i z
          | succ k => simpa using n2 k i
        · cases k with
          | zero => exact fun z => z
          | succ k => simpa using o2 k d
      cases e with
      | v p =>
        simp only [frzSl] at h
        split at h
        · rename_i zs st2 e2
          cases h
          exact rest (fun i => by simp) e2 rfl rfl
        · cases h
      | own d0 =>
        simp only [frzSl] at h
        split at h
        · rename_i zs st2 e2
          cases h
          exact rest (fun i => by simp) e2 rfl rfl
        · cases h
      | slot i =>
        simp only [frzSl] at h
        split at h
        · rename_i p st1 e1
          split at h
          · rename_i zs st2 e2
            cases h
            obtain ⟨S1, T1, R1⟩ := frzU S e1 (show ErU K H γ σ st _ (.slot i) from r)
            obtain ⟨S2, T2, R2, n2, o2⟩ := frzSl_ok S1 e2 (rs.tr T1)
            refine ⟨S2, T1.trans T2, .cons (Rep.tr T2 R1) R2 (fun ⟨d, hd⟩ => by cases hd), fun k j => ?_, fun k d => ?_⟩
            · cases k with
              | zero => simp
              | succ k => simpa using n2 k j
            · cases k with
              | zero => simp
              | succ k => simpa using o2 k d
          · cases h
        · cases h
def setAll : L2.St → List Nat → List V → L2.St
  | σ, i :: is, v :: vs => setAll (σ.set i (some v)) is vs
  | σ, _, _ => σ
theorem setAll_out {C : Ctx} : ∀ {is : List Nat} {vs : List V} {σ : L2.St}, (∀ i ∈ is, C.ro i = false) → Kp C σ (setAll σ is vs) ∧ (setAll σ is vs).length = σ.length
  | [], vs, σ, _ => by cases vs <;> exact ⟨Kp.refl, rfl⟩
  | i :: is, [], σ, _ => ⟨Kp.refl, rfl⟩
  | i :: is, v :: vs, σ, h => by
    obtain ⟨a, b⟩ := setAll_out (vs := vs) (σ := σ.set i (some v)) fun j hj => h j (.tail _ hj)
    refine ⟨Kp.trans (fun j hj => ?_) a, by rw [setAll, b, List.length_set]⟩
    rw [get_set_other fun e => ?_]
    subst e
    rw [h j (.head _)] at hj
    cases hj
theorem storeAll_ok {C : Ctx} : ∀ {is : List Nat} {es : List ER} {vs : List V} {γ : Gm} {σ : L2.St} {st st' : ST}, noSlot es → Sim K H γ σ st → (∀ a, a ∈ γs.lock → Hs a ≠ none) → (∀ a, a ∈ γs.lock → a ∈ γ.lock) → ErRs K Hs H γ σ st vs es → storeAll C is es st = some st' →
    ∃ γ', Sim K H γ' (setAll σ is vs) st' ∧ Tr H (Mu γ σ st) ⟨γ.obj, []⟩ H (Mu γ' (setAll σ is vs) st') γ' ∧ (∀ a, a ∈ γs.lock → a ∈ γ'.lock) ∧ ∀ i ∈ is, C.ro i = false
  | [], [], vs, γ, σ, st, st', ns, S, Ls, hk, R, h => by
    cases R
    cases h
    exact ⟨γ, S, Tr.refl.nolock, hk, fun i hi => by cases hi⟩
  | [], _ :: _, vs, γ, σ, st, st', ns, S, Ls, hk, R, h => by cases h
  | _ :: _, [], vs, γ, σ, st, st', ns, S, Ls, hk, R, h => by cases h
  | i :: is, e :: es, vs, γ, σ, st, st', ns, S, Ls, hk, R, h => by
    have ns' : noSlot es := fun k j => ns (k + 1) j
    have R0 := R
    cases R with
    | @cons v vs' _ _ r rs hn =>
    simp only [storeAll] at h
    split at h
    · rename_i st1 e1
      have hro : C.ro i = false := by
        unfold store at e1
        split at e1
        · cases e1
        · rename_i z
          simpa using z
      -- the others, behind the first store
      have go : ∀ {γ1 : Gm} {st1 : ST}, Sim K H γ1 (σ.set i (some v)) st1 → Tr H (Mu γ σ st) ⟨γ.obj, []⟩ H (Mu γ1 (σ.set i (some v)) st1) γ1 → (∀ a, a ∈ γs.lock → a ∈ γ1.lock) → (∀ (k : Nat) (d : LD) (a : Addr), es[k]? = some (ER.own d) → vs'[k]? = some (.ref a) → a ∈ γ1.lock) →
          storeAll C is es st1 = some st' → ∃ γ', Sim K H γ' (setAll σ (i :: is) (v :: vs')) st' ∧ Tr H (Mu γ σ st) ⟨γ.obj, []⟩ H (Mu γ' (setAll σ (i :: is) (v :: vs')) st') γ' ∧ (∀ a, a ∈ γs.lock → a ∈ γ'.lock) ∧ ∀ j ∈ i :: is, C.ro j = false := by
        intro γ1 st1 S1 T1 hk1 hl h
        have R1 : ErRs K Hs H γ1 (σ.set i (some v)) st1 vs' es := by
          clear hn h R0
          have key : ∀ {vs : List V} {es : List ER}, ErRs K Hs H γ σ st vs es → noSlot es → (∀ (k : Nat) (d : LD) (a : Addr), es[k]? = some (ER.own d) → vs[k]? = some (.ref a) → a ∈ γ1.lock) → ErRs K Hs H γ1 (σ.set i (some v)) st1 vs es := by
            intro vs es q
            induction q with
            | nil => exact fun _ _ => .nil
            | @cons u us x xs a b h ih =>
              intro n2 l2
              refine .cons ?_ (ih (fun k j => n2 (k + 1) j) fun k d a e q => l2 (k + 1) d a e q) h
              cases x with
              | v p => exact Rep.tr T1 (Rep.gam (γ := γ) (γ' := ⟨γ.obj, []⟩) rfl a)
              | own d =>
                obtain ⟨b, h1, h2, h3, h4⟩ := a
                exact ⟨b, h1, h2, l2 0 d b rfl (by rw [h1]; rfl), (OwnR.gam (γ := γ) (γ' := ⟨γ.obj, []⟩) rfl h4).tr' T1 fun _ e => e⟩
              | slot j => exact absurd rfl (n2 0 j)
          exact key rs ns' hl
        obtain ⟨γ2, S2, T2, hk2, ro2⟩ := storeAll_ok ns' S1 Ls hk1 R1 h
        refine ⟨γ2, S2, ?_, hk2, fun j hj => ?_⟩
        · refine ⟨fun a o e n => ?_, fun _ m => absurd m (by simp), fun a e => T1.dom a (T2.dom a e), fun a m => ?_, ?_⟩
          · exact e
          · rcases T2.mu a m with z | z
            · exact T1.mu a z
            · exact .inr z
          · obtain ⟨x1, h1⟩ := T1.gam
            obtain ⟨x2, h2⟩ := T2.gam
            exact ⟨x1 ++ x2, by rw [h2, show (⟨γ1.obj, []⟩ : Gm).obj = γ1.obj from rfl, h1, List.append_assoc]⟩
        · rcases List.mem_cons.mp hj with rfl | hj
          · exact hro
          · exact ro2 j hj
      unfold store at e1
      rw [if_neg (by rw [hro]; decide)] at e1
      cases e with
      | v p =>
        cases e1
        obtain ⟨S1, T1⟩ := S.store i r
        exact go S1 T1.nolock hk (fun k d a e q => by
          obtain ⟨b, h1, _, h3, _⟩ := rs.own e
          rw [q] at h1
          cases h1
          exact h3) h
      | own d =>
        cases e1
        obtain ⟨a, ha, h0, hl, o⟩ := r
        subst ha
        classical
        obtain ⟨S1, T1⟩ := S.own1 (lk := γ.lock.filter fun b => decide (b ≠ a)) i hl o (fun b m => (List.mem_filter.mp m).1) fun m => by simp at m
        refine go S1 T1 (fun b m => by
          simp only [List.mem_filter, decide_eq_true_eq]
          refine ⟨hk b m, fun e => ?_⟩
          subst e
          exact Ls _ m h0) (fun k d' b e q => by
          obtain ⟨c, h1, _, h3, _⟩ := rs.own e
          rw [q] at h1
          cases h1
          simp only [List.mem_filter, decide_eq_true_eq]
          refine ⟨h3, fun e' => ?_⟩
          subst e'
          exact hn ⟨d, rfl⟩ k d' e q) h
      | slot j => exact absurd rfl (ns 0 j)
    · cases h
end
end Q
end
section
set_option maxHeartbeats 1000000
namespace Q
open PySem PySem.Spec PyProof.Rows
open L2 hiding cutV
section
variable {B : Bs} {C : Ctx} {σ : L2.St} {H : Hp} {γ : Gm} {st : ST} {D : Ends}
/-- a statement that begins with an expression's value -/
theorem so_wp {α : Type} {o : Out α} {f : α → ST → SO} (h : sK B C σ H γ st D (o.so f)) : o.wp (fun a st' => sK B C σ H γ st D (f a st')) (excK B σ H γ st) := by
  cases o with
  | ok a st' => exact h
  | exc x st' => exact fun cls d H' γ' T S R => h cls d σ H' γ' ⟨T, S, Kp.refl⟩ R
  | bad => exact h.elim
theorem so_from {α : Type} {σ1 : L2.St} {H1 : Hp} {γ1 : Gm} {st1 : ST} {o : Out α} {f : α → ST → SO} (P : Stp B C σ H γ st σ1 H1 γ1 st1) (h : sK B C σ H γ st D (o.so f)) : o.wp (fun a st' => sK B C σ H γ st D (f a st')) (excK B σ1 H1 γ1 st1) := by
  cases o with
  | ok a st' => exact h
  | exc x st' => exact fun cls d H' γ' T S R => h cls d σ1 H' γ' (P.trans ⟨T, S, Kp.refl⟩) R
  | bad => exact h.elim
theorem Kp.set {i : Nat} {o : Option V} (h : C.ro i = false) : Kp C σ (σ.set i o) := fun j hj => get_set_other fun e => by
  subst e
  rw [h] at hj
  cases hj
theorem store_ro {i : Nat} {x : ER} {st st' : ST} (h : store C i x st = some st') : C.ro i = false := by
  unfold store at h
  split at h
  · cases h
  · rename_i z
    simpa using z
theorem store_stp {H1 : Hp} {γ1 : Gm} {st1 st2 : ST} {i : Nat} {x : ER} {v : V} (S : Sim B.K H γ σ st) (T1 : Tr H (Mu γ σ st) γ H1 (Mu γ1 σ st1) γ1) (S1 : Sim B.K H1 γ1 σ st1) (R1 : ErR B.K H H1 γ1 σ st1 v x) (h : store C i x st1 = some st2) :
    ∃ γ2, Stp B C σ H γ st (σ.set i (some v)) H1 γ2 st2 := by
  have ro := store_ro h
  unfold store at h
  rw [if_neg (by rw [ro]; decide)] at h
  cases x with
  | v p =>
    cases h
    obtain ⟨S2, T2⟩ := S1.store i R1
    exact ⟨_, T1.trans T2, S2, Kp.set ro⟩
  | own d =>
    cases h
    obtain ⟨S2, T2⟩ := S1.storeOwn T1 S.lk i R1
    exact ⟨_, T2, S2, Kp.set ro⟩
  | slot j =>
    dsimp only at h
    split at h
    · rename_i p st3 hf
      cases h
      obtain ⟨S2, T2, R2⟩ := frz_ok S.lk T1 S1 hf R1
      obtain ⟨S3, T3⟩ := S2.store i R2
      exact ⟨_, T2.trans T3, S3, Kp.set ro⟩
    · cases h
theorem asg_imp {i : Nat} {m : E} (h : tS B C (.asg (.v i) m) D σ H) : tAsg (tE B C m) (gName i) D σ H := by
  obtain ⟨γ, st, S, h⟩ := h
  rw [ex] at h
  refine ⟨γ, st, S, wp_mono (so_wp h) (fun x st1 h v H1 γ1 T1 S1 R1 => ?_) fun _ _ e => e⟩
  cases q : store C i x st1 with
  | none => rw [q] at h; exact h.elim
  | some st2 =>
    rw [q] at h
    obtain ⟨γ2, P⟩ := store_stp S T1 S1 R1 q
    exact h _ _ γ2 P
theorem tup_imp {is : List Nat} {m : E} (h : tS B C (.asg (.t is) m) D σ H) : tAsg (tE B C m) (gTg B.K (.t is)) D σ H := by
  obtain ⟨γ, st, S, h⟩ := h
  rw [ex] at h
  have h := so_wp h
  rw [frzO, wp_bind] at h
  refine ⟨γ, st, S, wp_mono h (fun x st1 h v H1 γ1 T1 S1 R1 => ?_) fun _ _ e => e⟩
  split at h
  · rename_i p st2 hf
    obtain ⟨S2, T2, R2⟩ := frz_ok S.lk T1 S1 hf R1
    cases q : stTg C (.t is) p st2 with
    | none => rw [q] at h; exact h.elim
    | some st3 =>
      rw [q] at h
      refine putTo_ok (ws := is) (fun i hi => hi) S2 R2 (stTg_put q) fun σ' el ew S3 T3 => ?_
      refine h σ' H1 _ ⟨T2.trans T3, S3, fun j hj => ?_⟩
      have hn : j ∉ is := fun m => by
        unfold stTg at q
        dsimp only at q
        split at q
        · cases q
        · rename_i z
          exact z (List.any_eq_true.mpr ⟨j, m, hj⟩)
      rw [← wipe_out (σ := σ') hn, ← wipe_out (σ := σ) hn, ew]
  · exact h.elim
theorem par_imp {is : List Nat} {ms : EL} {Qf : L2.St → Hp → Prop} (h : tS B C (.par is ms) D σ H) : tL B C ms σ H fun vs H1 => vs.length = is.length ∧ D.nx (setAll σ is vs) H1 := by
  obtain ⟨γ, st, S, h⟩ := h
  rw [ex] at h
  refine ⟨γ, st, S, wp_mono (so_wp h) (fun xs st1 h vs H1 γ1 T1 S1 R1 => ?_) fun _ _ e => e⟩
  split at h
  · rename_i ys st2 hf
    obtain ⟨S2, T2, R2, ns, _⟩ := frzSl_ok S1 hf R1
    cases q : storeAll C is ys st2 with
    | none => rw [q] at h; exact h.elim
    | some st3 =>
      rw [q] at h
      obtain ⟨γ3, S3, T3, hk, ro⟩ := storeAll_ok ns S2 S.lk (fun a m => T2.lock a (T1.lock a m)) R2 q
      have hl : ∀ {is : List Nat} {es : List ER} {st st' : ST}, storeAll C is es st = some st' → es.length = is.length := by
        intro is
        induction is with
        | nil => intro es st st' e; cases es with
          | nil => rfl
          | cons a b => cases e
        | cons i r ih => intro es st st' e; cases es with
          | nil => cases e
          | cons a b =>
            simp only [storeAll] at e
            split at e
            · rw [List.length_cons, List.length_cons, ih e]
            · cases e
      exact ⟨by rw [R2.len, hl q], h _ _ γ3 ⟨(T1.trans T2).seal' T3 rfl hk, S3, (setAll_out ro).1⟩⟩
  · exact h.elim
end
section
variable {X : Cx} {B : Bs} {C : Ctx} {a b d e : Expr} {ma mb md m : E} {pos py : Pos} {y : Str} {i : Nat}
theorem s_asgv (hN : X.N.Nodup) (hi : X.N[i]? = some y) (hx : Loc X.env.scope y) (hf : X.fn y = true ∨ X.env.scope.names.lookup y = some .local) (hs : swapsWith e (some (.Name y py)) pos.line X.env = pure false) (he : PE X e (tE B C m)) : PS X (.Assign [.Name y py] e pos) (tS B C (.asg (.v i) m)) :=
  (ps_set hN hi hx he hs hf).mono fun _ _ _ h => asg_imp h
theorem s_asgt {es : List Expr} {is : List Nat} {k : Nat} (hB : B.K = X.K) (hc : X.calm = true) (he : PE X e (tE B C m)) (hg : PGs X es (gNames is)) (hn : (assignEach es X.env).length = is.length) (hst : (assignEach es X.env).findIdx? (·.1) = none) (hs : swapsWithSole [.Tuple es k py] e pos.line X.env = pure false) (hw : swappedStores [.Tuple es k py] e X.env = pure none) (h1 : (assignEach [.Tuple es k py] X.env).map (·.2) = [assign (.Tuple es k py) X.env]) :
    PS X (.Assign [.Tuple es k py] e pos) (tS B C (.asg (.t is) m)) :=
  (ps_asg he (pg_tup hc hg hn hst) hs hw h1).mono fun _ _ _ h => by rw [← hB]; exact tup_imp h
theorem s_par2 {j : Nat} {z : Str} {ms : EL} {pz pt pt2 : Pos} {kt k2 : Nat} (hc : X.calm = true) (hN : X.N.Nodup) (hi : X.N[i]? = some y) (hj : X.N[j]? = some z) (hij : i ≠ j) (hy : X.env.scope.names.lookup y = some .local) (hz : X.env.scope.names.lookup z = some .local) (ha : PA X [a, b] (tL B C ms))
    (hw : swappedStores [.Tuple [.Name y py, .Name z pz] kt pt] (.Tuple [a, b] k2 pt2) X.env = pure (some [y, z])) (hs : swapsWithSole [.Tuple [.Name y py, .Name z pz] kt pt] (.Tuple [a, b] k2 pt2) pos.line X.env = pure false) :
    PS X (.Assign [.Tuple [.Name y py, .Name z pz] kt pt] (.Tuple [a, b] k2 pt2) pos) (tS B C (.par [i, j] ms)) :=
  (ps_par hc hN hi hj hij hy hz ha hw hs).mono fun D σ H h => by
    obtain ⟨γ, st, S, h⟩ := par_imp (Qf := D.nx) h
    refine ⟨γ, st, S, wp_mono h (fun xs st1 h vs H1 γ1 T1 S1 R1 => ?_) fun _ _ e => e⟩
    obtain ⟨hl, q⟩ := h vs H1 γ1 T1 S1 R1
    match vs, hl with
    | [u, w], _ => exact ⟨u, w, rfl, q⟩
theorem s_par3 {j l : Nat} {z w : Str} {ms : EL} {pz pw pt pt2 : Pos} {kt k2 : Nat} (hc : X.calm = true) (hN : X.N.Nodup) (hi : X.N[i]? = some y) (hj : X.N[j]? = some z) (hk : X.N[l]? = some w) (hij : i ≠ j) (hil : i ≠ l) (hjl : j ≠ l) (hy : X.env.scope.names.lookup y = some .local) (hz : X.env.scope.names.lookup z = some .local) (hww : X.env.scope.names.lookup w = some .local)
    (ha : PA X [a, b, d] (tL B C ms)) (hw : swappedStores [.Tuple [.Name y py, .Name z pz, .Name w pw] kt pt] (.Tuple [a, b, d] k2 pt2) X.env = pure (some [y, z, w])) (hs : swapsWithSole [.Tuple [.Name y py, .Name z pz, .Name w pw] kt pt] (.Tuple [a, b, d] k2 pt2) pos.line X.env = pure false) :
    PS X (.Assign [.Tuple [.Name y py, .Name z pz, .Name w pw] kt pt] (.Tuple [a, b, d] k2 pt2) pos) (tS B C (.par [i, j, l] ms)) :=
  (ps_par3 hc hN hi hj hk hij hil hjl hy hz hww ha hw hs).mono fun D σ H h => by
    obtain ⟨γ, st, S, h⟩ := par_imp (Qf := D.nx) h
    refine ⟨γ, st, S, wp_mono h (fun xs st1 h vs H1 γ1 T1 S1 R1 => ?_) fun _ _ e => e⟩
    obtain ⟨hl, q⟩ := h vs H1 γ1 T1 S1 R1
    match vs, hl with
    | [u, w, t], _ => exact ⟨u, w, t, rfl, q⟩
theorem s_aug (hB : B.K = X.K) (hN : X.N.Nodup) (hi : X.N[i]? = some y) (hx : Loc X.env.scope y) (hf : X.fn y = true ∨ X.env.scope.names.lookup y = some .local) (he : PE X e (tE B C m)) : PS X (.AugAssign (.Name y py) .Add e pos) (tS B C (.aug i .Add m)) := by
  refine (ps_aug hN hi hx he ip_add hf).mono fun D σ H ⟨γ, st, S, h⟩ => ?_
  rw [ex] at h
  split at h
  · rename_i n q
    obtain ⟨v, hv, r⟩ := S.sv i _ q
    have r : Rep B.K H (Mu γ σ st) γ v (.int n) := r
    cases r
    refine ⟨_, hv, γ, st, S, wp_mono (so_wp h) (fun x st1 h v1 H1 γ1 T1 S1 R1 => ?_) fun _ _ e => e⟩
    have R1' : ErR B.K H H1 γ1 σ st1 v1 x := R1
    have Dv := R1'.dv S1
    split at h
    · exact h.elim
    · rename_i ro
      generalize x.get st1 = dv at h Dv
      cases dv with
      | v p =>
        cases p with
        | int k =>
          cases Dv
          obtain ⟨S2, T2⟩ := S1.store (v := .int (n + k)) (p := .int (n + k)) i (Rep.int (n + k))
          exact ⟨n, k, rfl, rfl, h _ _ γ1 ⟨T1.trans T2, S2, Kp.set (by simpa using ro)⟩⟩
        | _ => exact h.elim
      | _ => exact h.elim
  · exact h.elim
theorem s_ex (hs : swapsWith e none pos.line X.env = pure false) (he : PE X e (tE B C m)) : PS X (.Expr e pos) (tS B C (.ex m)) := by
  refine (ps_expr he hs).mono fun D σ H ⟨γ, st, S, h⟩ => ?_
  rw [ex] at h
  exact ⟨γ, st, S, wp_mono (so_wp h) (fun x st1 h v H1 γ1 T1 S1 R1 => h σ H1 γ1 ⟨T1, S1, Kp.refl⟩) fun _ _ e => e⟩
theorem s_ret (he : PE X e (tE B C m)) : PS X (.Return (some e) pos) (tS B C (.ret m)) := by
  refine (ps_ret he).mono fun D σ H ⟨γ, st, S, h⟩ => ?_
  rw [ex] at h
  exact ⟨γ, st, S, wp_mono (so_wp h) (fun x st1 h v H1 γ1 T1 S1 R1 => h v σ H1 γ1 ⟨T1, S1, Kp.refl⟩ R1) fun _ _ e => e⟩
theorem s_retn : PS X (.Return none pos) (tS B C .retn) := by
  refine PS.mono ps_retN fun D σ H ⟨γ, st, S, h⟩ => ?_
  rw [ex] at h
  exact h .non σ H γ ⟨Tr.refl, S, Kp.refl⟩ Rep.non
theorem s_pass : PS X (.Pass pos) (tS B C .pass) := by
  refine PS.mono ps_pass fun D σ H ⟨γ, st, S, h⟩ => ?_
  rw [ex] at h
  exact h σ H γ ⟨Tr.refl, S, Kp.refl⟩
theorem s_doc {x : Str} {j : Nat} {p : Pos} : PS X (.Expr (.Constant (.str x) j p) pos) (tS B C .pass) := by
  refine PS.mono ps_doc fun D σ H ⟨γ, st, S, h⟩ => ?_
  rw [ex] at h
  exact h σ H γ ⟨Tr.refl, S, Kp.refl⟩
theorem s_brk : PS X (.Break pos) (tS B C .brk) := by
  refine PS.mono ps_break fun D σ H ⟨γ, st, S, h⟩ => ?_
  rw [ex] at h
  exact h σ H γ ⟨Tr.refl, S, Kp.refl⟩
theorem s_cnt : PS X (.Continue pos) (tS B C .cnt) := by
  refine PS.mono ps_continue fun D σ H ⟨γ, st, S, h⟩ => ?_
  rw [ex] at h
  exact h σ H γ ⟨Tr.refl, S, Kp.refl⟩
theorem s_if {mt : T} {p q : List Stmt} {mp mq : SL} (ht : PT X a (tT B C mt)) (hp : PSs X p (tSs B C mp)) (hq : PSs X q (tSs B C mq)) : PS X (.If a p q pos) (tS B C (.ife mt mp mq)) := by
  refine (ps_if ht hp hq).mono fun D σ H ⟨γ, st, S, h⟩ => ?_
  rw [ex] at h
  refine ⟨γ, st, S, wp_mono (so_wp h) (fun k st1 h k' H1 γ1 T1 S1 R1 => ?_) fun _ _ e => e⟩
  have R1 : k' = k := R1
  subst R1
  cases k' with
  | true => exact L2.iteT ⟨γ1, st1, S1, h.from ⟨T1, S1, Kp.refl⟩⟩
  | false => exact L2.iteF ⟨γ1, st1, S1, h.from ⟨T1, S1, Kp.refl⟩⟩
theorem s_snil : PSs X [] (tSs B C .nil) := by
  refine PSs.mono pss_nil fun D σ H ⟨γ, st, S, h⟩ => ?_
  rw [exs] at h
  exact h σ H γ ⟨Tr.refl, S, Kp.refl⟩
theorem s_scons {s : Stmt} {r : List Stmt} {ms : S} {mr : SL} (h1 : PS X s (tS B C ms)) (h2 : PSs X r (tSs B C mr)) : PSs X (s :: r) (tSs B C (.cons ms mr)) := by
  refine PSs.mono (pss_cons h1 h2) fun D σ H ⟨γ, st, S, h⟩ => ⟨γ, st, S, ?_⟩
  rw [exs] at h
  generalize ex C ms st = o at h ⊢
  cases o with
  | nx st' =>
    intro σ' H' γ' P
    exact ⟨γ', st', P.sim, sK.from (D := D) h P⟩
  | ret r st' => exact h
  | bk st' => exact h
  | ct st' => exact h
  | exc x st' => exact h
  | bad => exact h.elim
/-! loops -/
theorem turn_ends {σ σ0 : L2.St} {H H0 : Hp} {γ γ0 : Gm} {st st0 : ST} {D : Ends} {N : L2.St → Hp → Prop} {f : ST → SO} {o : SO} (P0 : Stp B C σ0 H0 γ0 st0 σ H γ st) (h : sK B C σ0 H0 γ0 st0 D (o.turn f))
    (hN : ∀ st' σ' H' γ', Stp B C σ H γ st σ' H' γ' st' → sK B C σ0 H0 γ0 st0 D (f st') → N σ' H') : sK B C σ H γ st { D with nx := N, ct := N, bk := D.nx } o := by
  cases o with
  | nx st' => exact fun σ' H' γ' P => hN st' σ' H' γ' P h
  | ct st' => exact fun σ' H' γ' P => hN st' σ' H' γ' P h
  | bk st' => exact fun σ' H' γ' P => h σ' H' γ' (P0.trans P)
  | ret r st' => exact fun v σ' H' γ' P R => h v σ' H' γ' (P0.trans P) (R.old P0.tr.dom)
  | exc x st' => exact fun cls d σ' H' γ' P R => h cls d σ' H' γ' (P0.trans P) R
  | bad => exact h.elim
theorem s_for {tg it : Expr} {body : List Stmt} {mt : Tg} {mi : IT} {mb : SL} (hp : PassesOwn (model X.prog X.w) X.A X.env X.xe) (hc : X.calm = true) (hi : PI X tg it (tI B C mi)) (hg : PG X tg (gTg B.K mt)) (hb : PSs X body (tSs B C mb)) (hs : ∀ x, foldedSetIterable it X.env x = pure x) :
    PS X (.For tg it body [] pos) (tS B C (.for_ mt mi mb)) := by
  refine (ps_for hp hc hi hg hb hs).mono fun D σ H ⟨γ, st, S, h⟩ => ?_
  rw [ex] at h
  refine ⟨γ, st, S, wp_mono (so_wp h) (fun xs st1 h J H1 γ1 T1 S1 R1 => ?_) fun _ _ e => e⟩
  refine ⟨fun i m σ' H' => m = xs.length - i ∧ i ≤ xs.length ∧ ∃ γ' st', Stp B C σ H γ st σ' H' γ' st' ∧ Tr H1 (Mu γ1 σ st1) ⟨γ1.obj, []⟩ H' (Mu γ' σ' st') γ' ∧ sK B C σ H γ st D (forO (fun x st => (nxO (stTg C mt x st)).seq fun st => exs C mb st) (xs.drop i) st'),
    ⟨xs.length, rfl, Nat.zero_le _, γ1, st1, ⟨T1, S1, Kp.refl⟩, Tr.refl.nolock, h⟩, ?_⟩
  rintro i m σ2 H2 ⟨rfl, hi, γ2, st2, P2, T2, w⟩
  obtain ⟨stop, R⟩ := R1 H2 _ γ2 T2
  by_cases hlt : i < xs.length
  · have hx : xs[i]? = some xs[i] := by simp [hlt]
    rw [List.drop_eq_getElem_cons hlt] at w
    generalize xs[i] = x at hx w
    obtain ⟨go, R⟩ := R i x hx
    refine .inr ⟨go, fun σ' H' => ∃ γ' st', Stp B C σ H γ st σ' H' γ' st' ∧ Tr H1 (Mu γ1 σ st1) ⟨γ1.obj, []⟩ H' (Mu γ' σ' st') γ' ∧ sK B C σ H γ st D (forO (fun x st => (nxO (stTg C mt x st)).seq fun st => exs C mb st) (xs.drop (i + 1)) st'),
      fun σ' H' ⟨γ', st', n⟩ => ⟨_, by omega, rfl, hlt, γ', st', n⟩, fun v H' yl => ?_⟩
    obtain ⟨rfl, rv⟩ := R v H' yl
    rw [forO] at w
    cases q : stTg C mt x st2 with
    | none => rw [q] at w; exact w.elim
    | some st3 =>
      rw [q] at w
      refine putTo_ok (ws := mt.slots) (fun i hi => hi) P2.sim rv (stTg_put q) fun σ' el ew S3 T3 => ?_
      have ro : ∀ j, C.ro j = true → j ∉ mt.slots := fun j hj m => by
        unfold stTg at q
        cases mt with
        | v k =>
          dsimp only at q
          split at q
          · cases q
          · rename_i z
            have m : j ∈ [k] := m
            simp at m
            subst m
            exact z hj
        | t ks =>
          dsimp only at q
          split at q
          · cases q
          · rename_i z
            exact z (List.any_eq_true.mpr ⟨j, m, hj⟩)
      have P3 : Stp B C σ2 H' γ2 st2 σ' H' γ2 st3 := ⟨T3, S3, fun j hj => by rw [← wipe_out (σ := σ') (ro j hj), ← wipe_out (σ := σ2) (ro j hj), ew]⟩
      refine ⟨γ2, st3, S3, turn_ends (P2.trans P3) w fun st' σ4 H4 γ4 P4 w' => ?_⟩
      exact ⟨γ4, st', (P2.trans P3).trans P4, T2.trans (P3.tr.trans P4.tr), w'⟩
  · have e : i = xs.length := by omega
    subst e
    rw [List.drop_length] at w
    exact .inl ⟨stop _ (Nat.le_refl _), w σ2 H2 γ2 P2⟩
theorem s_whl {t : Expr} {body : List Stmt} {mt : T} {mb : SL} (hp : PassesOwn (model X.prog X.w) X.A X.env X.xe) (ht : PT X t (tT B C mt)) (hb : PSs X body (tSs B C mb)) : PS X (.While t body [] pos) (tS B C (.whl mt mb)) := by
  refine (ps_while hp ht hb).mono fun D σ H ⟨γ, st, S, h⟩ => ?_
  rw [ex] at h
  refine ⟨fun m σ' H' => ∃ γ' st', Stp B C σ H γ st σ' H' γ' st' ∧ sK B C σ H γ st D (whlO (fun st => tst C mt st) (fun st => exs C mb st) m st'), ⟨C.fuel, γ, st, ⟨Tr.refl, S, Kp.refl⟩, h⟩, ?_⟩
  rintro m σ2 H2 ⟨γ2, st2, P2, w⟩
  cases m with
  | zero => exact w.elim
  | succ m =>
    rw [whlO] at w
    refine ⟨γ2, st2, P2.sim, wp_mono (so_from P2 w) (fun k st3 w k' H3 γ3 T3 S3 R3 => ?_) fun x st3 e => e⟩
    have R3 : k' = k := R3
    subst R3
    have P3 : Stp B C σ2 H2 γ2 st2 σ2 H3 γ3 st3 := ⟨T3, S3, Kp.refl⟩
    cases k' with
    | false => exact L2.iteF (w σ2 H3 γ3 (P2.trans P3))
    | true =>
      refine L2.iteT ⟨fun σ' H' => ∃ γ' st', Stp B C σ H γ st σ' H' γ' st' ∧ sK B C σ H γ st D (whlO (fun st => tst C mt st) (fun st => exs C mb st) m st'), fun σ' H' ⟨γ', st', n⟩ => ⟨m, Nat.lt_succ_self m, γ', st', n⟩, ?_⟩
      exact ⟨γ3, st3, S3, turn_ends (P2.trans P3) w fun st' σ4 H4 γ4 P4 w' => ⟨γ4, st', (P2.trans P3).trans P4, w'⟩⟩
end
end Q
end
section
set_option maxHeartbeats 1000000
namespace Q
open PySem PySem.Spec PyProof.Rows
open L2 hiding cutV
/-! ### calls with keywords -/
section
variable {K : PySem.W.Frag} {H0 H H1 H2 : Hp} {γ γ1 γ2 : Gm} {σ : L2.St} {st st1 st2 : ST}
theorem errs_of : ∀ {vs : List V} {es : List ER}, vs.length = es.length → (∀ (k : Nat) (v : V) (e : ER), vs[k]? = some v → es[k]? = some e → ErR K H0 H γ σ st v e) →
    (∀ (j k : Nat) (d d' : LD) (v : V), es[j]? = some (ER.own d) → es[k]? = some (ER.own d') → vs[j]? = some v → vs[k]? = some v → j = k) → ErRs K H0 H γ σ st vs es
  | [], [], _, _, _ => .nil
  | [], _ :: _, h, _, _ => by cases h
  | _ :: _, [], h, _, _ => by cases h
  | v :: vs, e :: es, hl, hp, ha => by
    refine .cons (hp 0 v e rfl rfl) (errs_of (by simpa using hl) (fun k w x h1 h2 => hp (k + 1) w x (by simpa using h1) (by simpa using h2)) fun j k d d' w h1 h2 h3 h4 => ?_) fun ⟨d, hd⟩ k d' h1 h2 => ?_
    · have := ha (j + 1) (k + 1) d d' w (by simpa using h1) (by simpa using h2) (by simpa using h3) (by simpa using h4)
      omega
    · subst hd
      have := ha 0 (k + 1) d d' v rfl (by simpa using h1) rfl (by simpa using h2)
      omega
theorem errs_app (T : Tr H1 (Mu γ1 σ st1) γ1 H2 (Mu γ2 σ st2) γ2) (hd : ∀ a, H1 a = none → H0 a = none) {zs : List V} {ys : List ER} (R2 : ErRs K H1 H2 γ2 σ st2 zs ys) : ∀ {vs : List V} {xs : List ER}, ErRs K H0 H1 γ1 σ st1 vs xs → ErRs K H0 H2 γ2 σ st2 (vs ++ zs) (xs ++ ys) := by
  intro vs xs R1
  induction R1 with
  | nil => exact R2.old hd
  | @cons v vs e es a b h ih =>
    refine .cons (a.tr T) ih fun ho k d' h1 h2 => ?_
    have h1 : (es ++ ys)[k]? = some (ER.own d') := h1
    have h2 : (vs ++ zs)[k]? = some v := h2
    by_cases hk : k < es.length
    · rw [List.getElem?_append_left hk] at h1
      rw [List.getElem?_append_left (by rw [b.len]; exact hk)] at h2
      exact h ho k d' h1 h2
    · rw [List.getElem?_append_right (by omega)] at h1
      rw [List.getElem?_append_right (by rw [b.len]; omega), b.len] at h2
      exact errs_new a R2 ho _ d' h1 h2
/-- a default of a parameter -/
def DfR (p : PV) (z : Value) : Prop := ∃ v, RelV v z ∧ ∀ (K : PySem.W.Frag) (H : Hp) (M : Addr → Prop) (γ : Gm), Rep K H M γ v p
/-- what the parameters get -/
inductive Picks (us : List Value) : List CA → List Value → Prop
  | nil : Picks us [] []
  | a {i : Nat} {z : Value} {r : List CA} {zs : List Value} : us[i]? = some z → Picks us r zs → Picks us (.a i :: r) (z :: zs)
  | d {p : PV} {z : Value} {r : List CA} {zs : List Value} : DfR p z → Picks us r zs → Picks us (.d p :: r) (z :: zs)
structure PBinds (K : PySem.W.Frag) (fd : FuncData) (ps : List Str) (n : Nat) (ks : List Str) (pm : List CA) : Prop where
  to : ∀ (s : Shared) (us ws : List Value), K.In s.heap → us.length = n → ws.length = ks.length → ∃ zs, BindsTo s fd ⟨us, ks.zip ws⟩ (ps.zip zs) ∧ Picks (us ++ ws) pm zs
theorem pick_len : ∀ {pm : List CA} {es ys : List ER}, pickA es pm = some ys → ys.length = pm.length
  | [], es, ys, h => by cases h; rfl
  | .a i :: r, es, ys, h => by
    simp only [pickA] at h
    split at h
    · rename_i e1 e2
      cases h
      rw [List.length_cons, List.length_cons, pick_len e2]
    · cases h
  | .d p :: r, es, ys, h => by
    simp only [pickA] at h
    obtain ⟨b, hb, rfl⟩ := Option.map_eq_some_iff.mp h
    rw [List.length_cons, List.length_cons, pick_len hb]
/-- where the k-th comes from -/
theorem pick_at : ∀ {pm : List CA} {es ys : List ER} {k : Nat} {e : ER}, pickA es pm = some ys → ys[k]? = some e → (∃ i : Nat, pm[k]? = some (.a i) ∧ es[i]? = some e) ∨ ∃ p, pm[k]? = some (.d p) ∧ e = .v p
  | [], es, ys, k, e, h, q => by cases h; simp at q
  | .a i :: r, es, ys, k, e, h, q => by
    simp only [pickA] at h
    split at h
    · rename_i x zs e1 e2
      cases h
      cases k with
      | zero =>
        simp at q
        subst q
        exact .inl ⟨i, rfl, e1⟩
      | succ k =>
        rcases pick_at (k := k) e2 (by simpa using q) with ⟨j, h1, h2⟩ | ⟨p, h1, h2⟩
        · exact .inl ⟨j, by simpa using h1, h2⟩
        · exact .inr ⟨p, by simpa using h1, h2⟩
    · cases h
  | .d p :: r, es, ys, k, e, h, q => by
    simp only [pickA] at h
    obtain ⟨zs, hb, rfl⟩ := Option.map_eq_some_iff.mp h
    cases k with
    | zero =>
      simp at q
      exact .inr ⟨p, rfl, q.symm⟩
    | succ k =>
      rcases pick_at (k := k) hb (by simpa using q) with ⟨j, h1, h2⟩ | ⟨p, h1, h2⟩
      · exact .inl ⟨j, by simpa using h1, h2⟩
      · exact .inr ⟨p, by simpa using h1, h2⟩
theorem pick_ix : ∀ {pm : List CA} {j k i : Nat}, (pickIx pm).Nodup → pm[j]? = some (.a i) → pm[k]? = some (.a i) → j = k := by
  have mem : ∀ {pm : List CA} {k i : Nat}, pm[k]? = some (.a i) → i ∈ pickIx pm := by
    intro pm
    induction pm with
    | nil => intro k i h; simp at h
    | cons c r ih =>
      intro k i h
      cases k with
      | zero =>
        simp at h
        subst h
        exact .head _
      | succ k =>
        have := ih (k := k) (by simpa using h)
        cases c with
        | a j => exact .tail _ this
        | d p => exact this
  intro pm
  induction pm with
  | nil => intro j k i _ h; simp at h
  | cons c r ih =>
    intro j k i nd h1 h2
    have nd' : (pickIx r).Nodup := by
      cases c with
      | a j => exact (List.nodup_cons.mp nd).2
      | d p => exact nd
    cases j with
    | zero =>
      simp at h1
      subst h1
      cases k with
      | zero => rfl
      | succ k => exact absurd (mem (k := k) (by simpa using h2)) (List.nodup_cons.mp nd).1
    | succ j =>
      cases k with
      | zero =>
        simp at h2
        subst h2
        exact absurd (mem (k := j) (by simpa using h1)) (List.nodup_cons.mp nd).1
      | succ k => rw [ih (j := j) (k := k) nd' (by simpa using h1) (by simpa using h2)]
theorem picks_ok {us : List Value} {vs : List V} {es ys : List ER} {pm : List CA} {zs : List Value} (P : Picks us pm zs) (rv : Vals vs us) (hp : pickA es pm = some ys) (nd : (pickIx pm).Nodup) (R : ErRs K H0 H γ σ st vs es) :
    ∃ ws, Vals ws zs ∧ ErRs K H0 H γ σ st ws ys := by
  -- the values
  have vals : ∀ {pm : List CA} {zs : List Value}, Picks us pm zs → ∃ ws, Vals ws zs ∧ ws.length = pm.length ∧ ∀ (k : Nat) (w : V), ws[k]? = some w → (∃ i : Nat, pm[k]? = some (.a i) ∧ vs[i]? = some w) ∨ ∃ p, pm[k]? = some (.d p) ∧ ∀ (K : PySem.W.Frag) (H : Hp) (M : Addr → Prop) (γ : Gm), Rep K H M γ w p := by
    intro pm zs P
    induction P with
    | nil => exact ⟨[], .nil, rfl, fun k w h => by simp at h⟩
    | @a i z r zs h _ ih =>
      obtain ⟨ws, h1, h2, h3⟩ := ih
      have hi : i < vs.length := by rw [rv.length]; exact (List.getElem?_eq_some_iff.mp h).1
      obtain ⟨u, hu, ru⟩ := rv.get (x := vs[i]) (i := i) (by simp)
      rw [h] at hu
      cases hu
      refine ⟨vs[i] :: ws, .cons ru h1, by simp [h2], fun k w q => ?_⟩
      cases k with
      | zero =>
        simp at q
        subst q
        exact .inl ⟨i, rfl, by simp⟩
      | succ k =>
        rcases h3 k w (by simpa using q) with ⟨j, a1, a2⟩ | ⟨p, a1, a2⟩
        · exact .inl ⟨j, by simpa using a1, a2⟩
        · exact .inr ⟨p, by simpa using a1, a2⟩
    | @d p z r zs h _ ih =>
      obtain ⟨ws, h1, h2, h3⟩ := ih
      obtain ⟨v, rv', hr⟩ := h
      refine ⟨v :: ws, .cons rv' h1, by simp [h2], fun k w q => ?_⟩
      cases k with
      | zero =>
        simp at q
        subst q
        exact .inr ⟨p, rfl, hr⟩
      | succ k =>
        rcases h3 k w (by simpa using q) with ⟨j, a1, a2⟩ | ⟨p, a1, a2⟩
        · exact .inl ⟨j, by simpa using a1, a2⟩
        · exact .inr ⟨p, by simpa using a1, a2⟩
  obtain ⟨ws, h1, h2, h3⟩ := vals P
  have own : ∀ (k : Nat) (d : LD) (w : V), ys[k]? = some (ER.own d) → ws[k]? = some w → ∃ i : Nat, pm[k]? = some (.a i) ∧ es[i]? = some (ER.own d) ∧ vs[i]? = some w := fun k d w e q => by
    rcases pick_at hp e with ⟨i, a1, a2⟩ | ⟨p, _, a2⟩
    · rcases h3 k w q with ⟨j, b1, b2⟩ | ⟨p, b1, _⟩
      · rw [a1] at b1
        cases b1
        exact ⟨i, a1, a2, b2⟩
      · rw [a1] at b1
        cases b1
    · cases a2
  refine ⟨ws, h1, errs_of (by rw [h2, pick_len hp]) (fun k w e q1 q2 => ?_) fun j k d d' w e1 e2 q1 q2 => ?_⟩
  · rcases pick_at hp q2 with ⟨i, a1, a2⟩ | ⟨p, a1, a2⟩
    · rcases h3 k w q1 with ⟨j, b1, b2⟩ | ⟨p, b1, _⟩
      · rw [a1] at b1
        cases b1
        obtain ⟨v, hv, r⟩ := R.get a2
        rw [b2] at hv
        cases hv
        exact r
      · rw [a1] at b1
        cases b1
    · rcases h3 k w q1 with ⟨j, b1, b2⟩ | ⟨p', b1, b2⟩
      · rw [a1] at b1
        cases b1
      · rw [a1] at b1
        cases b1
        subst a2
        exact b2 _ _ _ _
  · obtain ⟨i, a1, a2, a3⟩ := own j d w e1 q1
    obtain ⟨i', b1, b2, b3⟩ := own k d' w e2 q2
    have := R.apart a2 b2 a3 b3
    subst this
    exact pick_ix nd a1 b1
end
section
variable {X : Cx} {B : Bs} {C : Ctx} {T : Tbl} {n m : Nat} {a : Addr} {fd : FuncData} {ps ks : List Str} {f x : Str} {p pos kpos : Pos} {es : List Expr} {e : Expr} {kws : List Keyword} {ms mk : EL} {me : E} {pm : List CA} {nm : Option Str}
theorem s_knil : PK X [] (tL B C .nil) := by
  refine ⟨fun pos pins s σ H Qk I ⟨γ, st, S, h⟩ => PK.run pk_nil pos pins s σ H Qk I ?_⟩
  rw [evL] at h
  exact h [] H γ Tr.refl S .nil
theorem s_kcons (ha : PE X e (tE B C me)) (hr : PK X kws (tL B C mk)) : PK X (⟨nm, e, kpos⟩ :: kws) (tL B C (.cons me mk)) := by
  refine ⟨fun pos pins s σ H Qk I ⟨γ, st, S, h⟩ => PK.run (pk_cons ha hr) pos pins s σ H Qk I ?_⟩
  rw [evL, wp_bind] at h
  refine ⟨γ, st, S, wp_mono h (fun x st1 h v1 H1 γ1 T1 S1 R1 => ?_) fun _ _ e => e⟩
  rw [wp_bind] at h
  exact ⟨γ1, st1, S1, wp_mono h (fun y st2 h vs H2 γ2 T2 S2 R2 => h (v1 :: vs) H2 γ2 (T1.trans T2) S2 (.cons (ErR.tr T2 R1) (ErRs.old T1.dom R2) (errs_new R1 R2))) fun _ _ e => e.trans T1⟩
theorem kw_map (pos : Pos) (env : PySem.Env) : ∀ kws : List Keyword, (backToKw pos (keywordEach kws env)).map (·.1) = kws.map (·.arg)
  | [] => rfl
  | ⟨x, e, kp⟩ :: r => by
    have ih := kw_map pos env r
    unfold backToKw at ih ⊢
    simp only [keywordEach, List.map_cons, List.map_map] at ih ⊢
    rw [ih]
theorem kw_list : ∀ {l : List (Option Str × Sem Value)} {ks : List Str}, l.map (·.1) = ks.map some → l.all (·.1.isSome) = true ∧ l.filterMap (·.1) = ks ∧ l.any (·.1.isNone) = false
  | [], ks, e => by
    have : ks = [] := by simpa using e.symm
    subst this
    exact ⟨rfl, rfl, rfl⟩
  | y :: r, [], e => by simp at e
  | (y, z) :: r, k :: ks, e => by
    simp only [List.map_cons, List.cons.injEq] at e
    obtain ⟨e1, e2⟩ := e
    subst e1
    obtain ⟨a, b, c⟩ := kw_list e2
    refine ⟨by simpa using a, by simp [b], by simpa using c⟩
def EL.len : EL → Nat
  | .nil => 0
  | .cons _ r => r.len + 1
theorem wp_eq {α : Type} {o : Out α} {q : α → ST → Prop} {e : XV → ST → Prop} (h : o.wp q e) : o.wp (fun a st => q a st ∧ o = .ok a st) e := by
  cases o with
  | ok a st => exact ⟨h, rfl⟩
  | exc x st => exact h
  | bad => exact h
theorem evL_len {C : Ctx} : ∀ {ms : EL} {st st' : ST} {xs : List ER}, evL C ms st = .ok xs st' → xs.length = ms.len
  | .nil, st, st', xs, h => by
    rw [evL] at h
    cases h
    rfl
  | .cons e r, st, st', xs, h => by
    rw [evL] at h
    cases q : ev C e st with
    | ok a st1 =>
      rw [q, bind_ok] at h
      cases q2 : evL C r st1 with
      | ok b st2 =>
        rw [q2, bind_ok] at h
        cases h
        rw [List.length_cons, evL_len q2]
        rfl
      | exc x st2 => rw [q2] at h; cases h
      | bad => rw [q2] at h; cases h
    | exc x st1 => rw [q] at h; cases h
    | bad => rw [q] at h; cases h
theorem s_callp (hK : B.K = X.K) (hM : B.mg = X.mg) (hc : C.call = callN T n) (F : FnG X.prog X.w X.K X.mg X.base (L2.CX X.prog X.w) n a fd ps (spF X.K X.mg T n f)) (hG : X.A.guards = some []) (hr : Room n X.A) (hg : Gl X f) (hm : X.mg f = some (.ref a)) (hk : PySem.W.keepIn X.K (.ref a) = true) (hb : PBinds X.K fd ps ms.len ks pm) (tk : Takes X B.W)
    (hdb : (f == ("__debug__" : Str)) = false) (ha : PA X es (tL B C ms)) (hkw : PK X kws (tL B C mk)) (hks : kws.map (·.arg) = ks.map some) (hln : mk.len = ks.length) (hs : ∀ e ∈ es, isStar e = false) (h0 : es = [] → ms = .nil) :
    PE X (.Call (.Name f p) es kws pos) (tE B C (.callp f pm ms mk)) := by
  obtain ⟨hall, hfm, hno⟩ := kw_list ((kw_map pos X.env kws).trans hks)
  refine ⟨fun pins s σ H Qk I h => wpAny_Call_Name_kw (ld_glob I hg hm ?_ hdb)⟩
  have core : ∀ {s2 : Shared} {us ws : List Value} {vs zs : List V} {H2 : Hp}, Inv X pins σ H2 s2 → Vals vs us → Vals zs ws → (vs.length = ms.len ∧ zs.length = mk.len ∧ ∀ (us ws zv : List Value), Vals vs us → Vals zs ws → Picks (us ++ ws) pm zv → ∃ vs', Vals vs' zv ∧ spF X.K X.mg T n f vs' H2 Qk (WE B.W σ)) →
      wpAny (model X.prog X.w) X.A (call (.ref a) us (ks.zip ws)) (EP X pins σ Qk) X.xe s2 := fun {s2 us ws vs zs H2} I2 r rz q => by
    obtain ⟨l1, l2, q⟩ := q
    obtain ⟨zv, hbt, hpk⟩ := hb.to s2 us ws I2.kIn (by rw [← r.length]; exact l1) (by rw [← rz.length, l2]; exact hln)
    obtain ⟨vs', rv', hsp⟩ := q us ws zv r rz hpk
    refine wpAny_call (codeAny_mono (run_fnG (us := us) (vs := vs) (Qk := Qk) (pins := pins) F hG hr hbt tk I2 rv' hsp) fun r s' hq => ?_)
    rcases r with e | fl
    · exact hq
    · cases fl <;> exact hq
  have rd : tL B C ms σ H fun vs H1 => tL B C mk σ H1 fun zs H2 => vs.length = ms.len ∧ zs.length = mk.len ∧ ∀ (us ws zv : List Value), Vals vs us → Vals zs ws → Picks (us ++ ws) pm zv → ∃ vs', Vals vs' zv ∧ spF X.K X.mg T n f vs' H2 Qk (WE B.W σ) := by
    obtain ⟨γ, st, S, h⟩ := h
    rw [ev, wp_bind] at h
    refine ⟨γ, st, S, wp_mono (wp_eq h) (fun xs st1 h vs H1 γ1 T1 S1 R1 => ?_) fun _ _ e => e⟩
    obtain ⟨h, hx⟩ := h
    rw [wp_bind] at h
    refine ⟨γ1, st1, S1, wp_mono (wp_eq h) (fun ys st2 h zs H2 γ2 T2 S2 R2 => ?_) fun _ _ e => e.trans T1⟩
    obtain ⟨h, hy⟩ := h
    refine ⟨by rw [ErRs.len R1, evL_len hx], by rw [ErRs.len R2, evL_len hy], fun us ws zv rv rw' hpk => ?_⟩
    split at h
    · rename_i zr hp
      split at h
      · rename_i nd
        have R := errs_app T2 T1.dom R2 R1
        obtain ⟨vs', rv', R'⟩ := picks_ok hpk (rv.append rw') hp nd R
        exact ⟨vs', rv', call_ok hK hM rfl S (T1.trans T2) S2 R' hc h⟩
      · exact h.elim
    · exact h.elim
  cases es with
  | nil =>
    have e0 := h0 rfl
    have r0 : tL B C mk σ H fun zs H2 => ([] : List V).length = ms.len ∧ zs.length = mk.len ∧ ∀ (us ws zv : List Value), Vals [] us → Vals zs ws → Picks (us ++ ws) pm zv → ∃ vs', Vals vs' zv ∧ spF X.K X.mg T n f vs' H2 Qk (WE B.W σ) := by
      rw [e0] at rd
      obtain ⟨γ, st, S, h⟩ := rd
      rw [evL] at h
      exact e0 ▸ h [] H γ Tr.refl S .nil
    refine PySem.W.callWith_KW0 (h₀ := X.base) I.ok.mod.kin hk hall (thn (hkw.run pos pins s σ H _ I r0) fun ws s2 ⟨zs, H2, I2, rz, q2⟩ => ⟨I2.kIn, ?_⟩) (by rw [hno]; rfl)
    rw [hfm]
    exact core (us := []) I2 .nil rz q2
  | cons e r =>
    refine PySem.W.callWith_KW (h₀ := X.base) I.ok.mod.kin hk hall (thn (ha.run pos pins s σ H _ I rd) fun us s1 ⟨vs, H1, I1, r1, q⟩ => thn (hkw.run pos pins s1 σ H1 _ I1 q) fun ws s2 ⟨zs, H2, I2, rz, q2⟩ => ⟨I2.kIn, ?_⟩) (by rw [hno, Bool.or_false]; exact backTo_plain pos X.env (e :: r) hs) (star_of (hs e (.head _)) r X.env)
    rw [hfm]
    exact core I2 r1 rz q2
end
/-! ### o[i] = e -/
def rSub : TSet := fun o k v H Qk => rSetL o k v H Qk ∨ ∃ a H4, o = .ref a ∧ DPut H a k v H4 ∧ Qk H4
theorem set_any {X : Cx} (hu : X.A.units + 1 < cLine) : PSet X rSub := fun pins s σ H o i v ov iv u Qk I ro ri rv h => by
  rcases h with h | ⟨a, H4, rfl, g, q⟩
  · exact set_list pins s σ H o i v ov iv u Qk I ro ri rv h
  · cases ro
    exact d_setItem hu I g ri rv fun s' I' => ⟨H4, I', q⟩
theorem sub_imp {B : Bs} {C : Ctx} {σ : L2.St} {H : Hp} {D : Ends} {i : Nat} {mk me : E} (h : tS B C (.sub i mk me) D σ H) : tAsg (tE B C me) (gSub (tVar i) (tE B C mk) rSub) D σ H := by
  obtain ⟨γ, st, S, h⟩ := h
  rw [ex] at h
  split at h
  · rename_i ho
    unfold ownsD at ho
    split at ho
    · rename_i d0 q0
      obtain ⟨u, hu, a, rfl, o0⟩ := S.sv i _ q0
      have h := so_wp h
      rw [frzO, wp_bind] at h
      refine ⟨γ, st, S, wp_mono h (fun x st1 h v H1 γ1 T1 S1 R1 => ?_) fun _ _ e => e⟩
      split at h
      · rename_i p st2 hf
        obtain ⟨S2, T2, R2⟩ := frz_ok S.lk T1 S1 hf R1
        rw [frzO, wp_bind] at h
        refine ⟨_, hu, _, st2, S2, wp_mono h (fun y st3 h w H3 γ3 T3 S3 R3 => ?_) fun _ _ e => e.trans T2⟩
        split at h
        · rename_i k st4 hf'
          obtain ⟨S4, T4, R4⟩ := frz_ok S2.lk T3 S3 hf' R3
          have Rp := R2.tr T4
          cases q : subO C i k p st4 with
          | none => rw [q] at h; exact h.elim
          | some st5 =>
            rw [q] at h
            unfold subO at q
            split at q
            · rename_i xs q4
              split at q
              · rename_i n
                obtain ⟨j, e1, e2⟩ := Option.map_eq_some_iff.mp q
                cases e2
                obtain ⟨u2, hu2, b, rfl, ws, hl, rs⟩ := S4.sv i _ q4
                rw [hu] at hu2
                cases hu2
                cases R4
                have W := Sim.write (K := B.K) (o := .lst (ws.set j v)) (d' := .lst (xs.set j p)) S4 q4 hu fun H' T e => ⟨_, e, Reps.set (Rep.tr T Rp) j (Reps.tr T rs)⟩
                exact .inl ⟨_, ws, n, j, rfl, rfl, hl, by rw [rs.len]; exact e1, h _ _ _ ⟨T2.trans (T4.trans W.2), W.1, Kp.refl⟩⟩
              · cases q
            · rename_i t kvs q4
              split at q
              · rename_i hk
                cases q
                simp only [Bool.and_eq_true, decide_eq_true_eq] at hk
                obtain ⟨hk, hz⟩ := hk
                obtain ⟨u2, hu2, b, rfl, o⟩ := S4.sv i _ q4
                rw [hu] at hu2
                cases hu2
                cases t with
                | false =>
                  obtain ⟨ks, hd, pr⟩ := o
                  have f : flatKey k = true := hk
                  have W := Sim.write (K := B.K) (o := .dK (putK ks (toKey k) v)) (d' := .dct false (dPut kvs k p)) S4 q4 hu fun H' T e => ⟨_, e, put_flat (Paired.imp2 pr fun _ _ z => ⟨z.1, Rep.tr T z.2⟩) f (Rep.tr T Rp)⟩
                  refine .inr ⟨_, _, rfl, ?_, h _ _ _ ⟨T2.trans (T4.trans W.2), W.1, Kp.refl⟩⟩
                  rw [rep_key R4 f]
                  exact DPut.k hd (by rw [Paired.length pr, sizeL]; exact hz)
                | true =>
                  obtain ⟨ks, hd, pr⟩ := o
                  cases k with
                  | tup xs =>
                    have f : xs.all flatKey = true := hk
                    have W := Sim.write (K := B.K) (o := .dT (putK ks (xs.map toKey) v)) (d' := .dct true (dPut kvs (.tup xs) p)) S4 q4 hu fun H' T e => ⟨_, e, put_tup (Paired.imp2 pr fun _ _ z => ⟨z.1, Rep.tr T z.2⟩) f (Rep.tr T Rp)⟩
                    refine .inr ⟨_, _, rfl, ?_, h _ _ _ ⟨T2.trans (T4.trans W.2), W.1, Kp.refl⟩⟩
                    cases R4 with
                    | tup h1 n1 r1 =>
                      refine DPut.t hd ?_ (by rw [Paired.length pr, sizeL]; exact hz)
                      rw [h1, reps_keys r1 f]
                  | _ => exact absurd hk (by simp [keyOk])
              · cases q
            · cases q
        · exact h.elim
      · exact h.elim
    · cases ho
  · exact h.elim
theorem s_sub {X : Cx} {B : Bs} {C : Ctx} {n i : Nat} {y : Str} {p p2 pos : Pos} {e ek : Expr} {me mk : E} (hr : Room n X.A) (hi : X.N[i]? = some y) (hv : Vis X.env.scope y) (h1 : (y == ("__debug__" : Str)) = false) (h2 : (y == ("__classdict__" : Str)) = false) (he : PE X e (tE B C me)) (hk : PE X ek (tE B C mk))
    (ha : ∀ v, assign (.Subscript (.Name y p) ek p2) X.env v = (do
      let ov ← holding [v] (eval (.Name y p) X.env)
      let iv ← holding [v, ov] (eval ek X.env)
      standAt p2
      holding [v, ov, iv] (setItem ov iv v)
      release [v, ov, iv] [])) (hs : swapsWithSole [.Subscript (.Name y p) ek p2] e pos.line X.env = pure false) (hw : swappedStores [.Subscript (.Name y p) ek p2] e X.env = pure none) :
    PS X (.Assign [.Subscript (.Name y p) ek p2] e pos) (tS B C (.sub i mk me)) :=
  PS.mono (ps_asg he (pg_sub (pe_var hi hv h1 h2) hk (set_any (by have := units64 hr; omega)) ha) hs hw rfl) fun _ _ _ h => sub_imp h
end Q
end
section
set_option maxHeartbeats 1000000
namespace Q
open PySem PySem.Spec PyProof.Rows
open L2 hiding cutV
/-! ### where a text stands -/
/-- how a def is called with keywords: so many by position, these names; what its parameters get -/
structure KB where
  f : Str
  n : Nat
  ks : List Str
  pm : List CA
structure TC where
  N : List Str
  sc : Scope
  fn : Str → Bool
  T : Tbl
  known : Str → Bool
  posk : Str → Bool
  kbs : List KB
def bltNames : List Str := ["len", "int", "abs", "tuple", "list", "all", "repr", "str", "bool", "max", "min", "range", "reversed", "isinstance", "sorted", "set"]
structure XOk (c : TC) (lv : Nat) (X : Cx) (B : Bs) (C : Ctx) : Prop where
  K : B.K = X.K
  mg : B.mg = X.mg
  N : X.N = c.N
  nd : X.N.Nodup
  sc : X.env.scope = c.sc
  fn : X.fn = c.fn
  calm : X.calm = true
  room : Room lv X.A
  gd : X.A.guards = some []
  tk : Takes X B.W
  call : C.call = callN c.T lv
  fns : ∀ f, c.known f = true → ∃ a fd ps, X.mg f = some (.ref a) ∧ PySem.W.keepIn X.K (.ref a) = true ∧ FnG X.prog X.w X.K X.mg X.base (L2.CX X.prog X.w) lv a fd ps (spF X.K X.mg c.T lv f) ∧ (c.posk f = true → Binds X.K fd ps []) ∧ ∀ b ∈ c.kbs, b.f = f → PBinds X.K fd ps b.n b.ks b.pm
  blt : ∀ x ∈ bltNames, X.mg x = none
def TC.blk (c : TC) (scope : Scope) : TC := { c with sc := relS scope c.sc, fn := fun x => scope.names.lookup x == some .cell }
theorem XOk.blk {c : TC} {lv : Nat} {X : Cx} {B : Bs} {C : Ctx} (h : XOk c lv X B C) (scope : Scope) (s : Shared) (H : Hp) (L : Addr) (cl : List (Str × Addr)) (fp : List Addr) : XOk (c.blk scope) lv (X.blk s H scope (compEnvC scope cl L X.env) fp) B.off C where
  K := h.K
  mg := h.mg
  N := h.N
  nd := h.nd
  sc := by rw [TC.blk, ← h.sc]; rfl
  fn := rfl
  calm := h.calm
  room := h.room
  gd := h.gd
  tk := fun _ _ ⟨_, _, _, _, _, _, _, _, _, _, _, _, _, _, _, _, w⟩ => w.elim
  call := h.call
  fns := h.fns
  blt := h.blt
/-! ### the link between the two texts -/
def look (c : TC) (x : Str) : Option NameKind := c.sc.names.lookup x
def isVis (c : TC) (x : Str) : Bool := (look c x == some .local || look c x == some .cell || look c x == some .free) && !(x == ("__debug__" : Str)) && !(x == ("__classdict__" : Str))
def isGl (c : TC) (x : Str) : Bool := look c x == some .globalImplicit && !(x == ("__debug__" : Str))
def isTo (c : TC) (i : Nat) (x : Str) : Bool := c.N[i]? == some x && (look c x == some .local || (look c x == some .cell && c.fn x))
def notComp : Expr → Bool
  | .ListComp _ _ _ _ => false
  | .SetComp _ _ _ _ => false
  | .DictComp _ _ _ _ _ => false
  | _ => true
def notSet : Expr → Bool
  | .Set _ _ _ => false
  | _ => true
def notSlice : Expr → Bool
  | .Slice _ _ _ _ => false
  | _ => true
def notTuple : Expr → Bool
  | .Tuple _ _ _ => false
  | _ => true
def plainTest : Expr → Bool
  | .UnaryOp .Not _ _ => false
  | .BoolOp _ _ _ => false
  | .IfExp _ _ _ _ => false
  | .Compare _ _ _ _ => false
  | _ => true
def opOk : Operator → Bool
  | .Add => true
  | .Sub => true
  | .Mult => true
  | .FloorDiv => true
  | .Mod => true
  | .Pow => true
  | .LShift => true
  | .RShift => true
  | .BitAnd => true
  | _ => false
def bfName : BF → Option Str
  | .len => some "len"
  | .int => some "int"
  | .abs => some "abs"
  | .tuple => some "tuple"
  | .list => some "list"
  | .all => some "all"
  | .repr => some "repr"
  | .str => some "str"
  | .bool => some "bool"
  | .max2 => some "max"
  | .min2 => some "min"
  | _ => none
def mmName : MM → Str
  | .append => "append"
  | .extend => "extend"
  | .pop => "pop"
  | .popAt => "pop"
  | .insert => "insert"
  | .clear => "clear"
def ctName (c : CT) : Str := Str.ofString c.name
def ownOf (c : TC) (ws : List Nat) : List (Str × Nat) := ws.map fun i => ((c.N[i]?).getD "", i)
inductive Jb where
  | e (m : E) (x : Expr)
  | l (m : EL) (xs : List Expr)
  | k (m : EL) (xs : List Keyword)
  | t (m : T) (x : Expr)
  | ta (m : T) (op : BoolOp) (xs : List Expr)
  | ea (m : E) (op : BoolOp) (xs : List Expr)
  | o (m : OE) (x : Option Expr)
  | i (m : IT) (x : Expr)
  | g (m : Tg) (x : Expr)
  | gs (m : List Nat) (xs : List Expr)
  | c (m : T) (xs : List Expr)
  | s (m : S) (x : Stmt)
  | ss (m : SL) (xs : List Stmt)
/-- whether  y = [..]  swaps its store -/
def swB (c : TC) (e : Expr) (y : Str) (py : Pos) : Bool := match e with
  | .ListComp _ _ s _ => (if c.sc.kind.isAnnotationScope then ScopeKind.function else c.sc.kind) == .function && look c y == some .local && py.line == e.pos.line && !(s.names.any fun (n, k) => n == y && (k == .local || k == .cell))
  | _ => false
def sw1 (ts vs : List Expr) (sc : Scope) : Bool := !(ts.length == 2 || ts.length == 3) || vs.length != ts.length || (if sc.kind.isAnnotationScope then ScopeKind.function else sc.kind) != .function
def swNm (ts : List Expr) (sc : Scope) : List Str := ts.filterMap fun
    | .Name id pos => if sc.names.lookup id == some .local && pos.line == (ts.head?.map (·.pos.line)).getD 0 then some id else none
    | _ => none
def sw3 (ts : List Expr) (sc : Scope) : Bool := (swNm ts sc).length != ts.length || (swNm ts sc).eraseDups.length != (swNm ts sc).length
def swOf (ts vs : List Expr) (sc : Scope) : Option (Option (List Str)) :=
  bif sw1 ts vs sc then some none else bif vs.any isStar then some none else bif sw3 ts sc then some none else bif vs.all (foldedForSure 8) then some none else bif vs.all (constantsAlone 8) then none else some (some (swNm ts sc))
def kbOk (c : TC) (f : Str) (n : Nat) (ks : List Str) (pm : List CA) : Bool := c.kbs.any fun b => b.f == f && b.n == n && b.ks == ks && (match b.pm, pm with | x, y => caEq x y)
where caEq : List CA → List CA → Bool
  | [], [] => true
  | .a i :: r, .a j :: t => i == j && caEq r t
  | .d .non :: r, .d .non :: t => caEq r t
  | .d (.int i) :: r, .d (.int j) :: t => decide (i = j) && caEq r t
  | .d (.bl i) :: r, .d (.bl j) :: t => (i == j) && caEq r t
  | .d (.str i) :: r, .d (.str j) :: t => decide (i = j) && caEq r t
  | _, _ => false
def kwNames (kws : List Keyword) : Option (List Str) := kws.mapM (·.arg)
def lcC (r : TC → Jb → Bool) (c : TC) (ws : List Nat) (tg : Tg) (it : IT) (cond : T) (elt : E) (xe xt xi : Expr) (xc : List Expr) (scope : Scope) : Bool :=
  blkC c.N c.sc scope (ownOf c ws) && tg.slots.all (ws.contains ·) && notSet xi && r c (.i it xi) && r (c.blk scope) (.g tg xt) && r (c.blk scope) (.c cond xc) && r (c.blk scope) (.e elt xe)
def lc2C (r : TC → Jb → Bool) (c : TC) (ws ws1 : List Nat) (tg : Tg) (it : IT) (cond : T) (tg1 : Tg) (it1 : IT) (cond1 : T) (elt : E) (xe xt xi : Expr) (xc : List Expr) (xt1 xi1 : Expr) (xc1 : List Expr) (scope : Scope) : Bool :=
  blkC c.N c.sc scope (ownOf c ws) && tg.slots.all (ws.contains ·) && tg1.slots.all (ws1.contains ·) && ws1.all (ws.contains ·) && notSet xi && notSet xi1 && r c (.i it xi) &&
    r (c.blk scope) (.g tg xt) && r (c.blk scope) (.c cond xc) && r (c.blk scope) (.i it1 xi1) && r (c.blk scope) (.g tg1 xt1) && r (c.blk scope) (.c cond1 xc1) && r (c.blk scope) (.e elt xe)
def stepE (r : TC → Jb → Bool) (c : TC) (m : E) (x : Expr) : Bool := match m, x with
  | .bad, _ => true
  | .c .non, .Constant .none _ _ => true
  | .c (.bl b), .Constant (.bool b') _ _ => b == b'
  | .c (.int i), .Constant (.int j) _ _ => decide (i = j)
  | .c (.str z), .Constant (.str w) _ _ => decide (z = w)
  | .var i, .Name y _ => c.N[i]? == some y && isVis c y
  | .bin op a b, .BinOp xa op' xb _ => decide (op = op') && opOk op && r c (.e a xa) && r c (.e b xb)
  | .neg a, .UnaryOp .USub xa _ => r c (.e a xa)
  | .not a, .UnaryOp .Not xa _ => r c (.e a xa)
  | .and a b, .BoolOp .And (xa :: xb :: w) _ => r c (.e a xa) && r c (.ea b .And (xb :: w))
  | .or a b, .BoolOp .Or (xa :: xb :: w) _ => r c (.e a xa) && r c (.ea b .Or (xb :: w))
  | .cmp op a b, .Compare xa [op'] [xb] _ => decide (op = op') && !behindInMarks op xb && r c (.e a xa) && r c (.e b xb)
  | .chain o1 o2 a b d, .Compare xa [p1, p2] [xb, xd] _ => decide (o1 = p1) && decide (o2 = p2) && !lastMarks [o1, o2] [xb, xd] && r c (.e a xa) && r c (.e b xb) && r c (.e d xd)
  | .ifx t a b, .IfExp xt xa xb _ => r c (.t t xt) && r c (.e a xa) && r c (.e b xb)
  | .tup es, .Tuple xs _ _ => r c (.l es xs)
  | .lst es, .List xs _ => r c (.l es xs)
  | .dnew _, .Dict [] [] _ => true
  | .sl a lo hi, .Subscript xa (.Slice xlo xhi none _) _ => r c (.e a xa) && r c (.o lo xlo) && r c (.o hi xhi)
  | .idx a b, .Subscript xa xb _ => notSlice xb && r c (.e a xa) && r c (.e b xb)
  | .call f as, .Call (.Name y _) xs [] _ => f == y && c.known f && c.posk f && isGl c f && r c (.l as xs)
  | .callp f pm as ks, .Call (.Name y _) xs kws _ => f == y && c.known f && isGl c f && (match kwNames kws with | some nm => kbOk c f as.len nm pm && ks.len == nm.length | none => false) && r c (.l as xs) && r c (.k ks kws)
  | .isi a t, .Call (.Name y _) [xa, .Name z _] [] _ => y == ("isinstance" : Str) && isGl c y && z == ctName t && isGl c z && !isStar xa && r c (.e a xa)
  | .blt f as, .Call (.Name y _) (xa :: xs) [] _ => bfName f == some y && isGl c y && r c (.l as (xa :: xs))
  | .mut m i as, .Call (.Attribute (.Name y _) a ap) xs [] pos => c.N[i]? == some y && isVis c y && a == mmName m && ap.endLine == pos.line && r c (.l as xs) && decide (xs.length < 3) && (match m, as.len with | .append, 1 => true | .extend, 1 => true | .pop, 0 => true | .popAt, 1 => true | .insert, 2 => true | .clear, 0 => true | _, _ => false)
  | .lc ws tg it cond elt, .ListComp xe [⟨xt, xi, xc, 0⟩] scope _ => lcC r c ws tg it cond elt xe xt xi xc scope
  | .lc2 ws ws1 tg it cond tg1 it1 cond1 elt, .ListComp xe [⟨xt, xi, xc, 0⟩, ⟨xt1, xi1, xc1, 0⟩] scope _ => lc2C r c ws ws1 tg it cond tg1 it1 cond1 elt xe xt xi xc xt1 xi1 xc1 scope
  | _, _ => false
def stepEA (r : TC → Jb → Bool) (c : TC) (m : E) (op : BoolOp) (xs : List Expr) : Bool := match xs with
  | [x] => r c (.e m x)
  | xa :: xb :: w => match m, op with
    | .and a b, .And => r c (.e a xa) && r c (.ea b .And (xb :: w))
    | .or a b, .Or => r c (.e a xa) && r c (.ea b .Or (xb :: w))
    | _, _ => false
  | _ => false
def stepL (r : TC → Jb → Bool) (c : TC) (m : EL) (xs : List Expr) : Bool := match m, xs with
  | .nil, [] => true
  | .cons e w, x :: xs => !isStar x && r c (.e e x) && r c (.l w xs)
  | _, _ => false
def stepK (r : TC → Jb → Bool) (c : TC) (m : EL) (xs : List Keyword) : Bool := match m, xs with
  | .nil, [] => true
  | .cons e w, ⟨_, x, _⟩ :: xs => r c (.e e x) && r c (.k w xs)
  | _, _ => false
def stepO (r : TC → Jb → Bool) (c : TC) (m : OE) (x : Option Expr) : Bool := match m, x with
  | .no, none => true
  | .yes e, some x => r c (.e e x)
  | _, _ => false
def stepT (r : TC → Jb → Bool) (c : TC) (m : T) (x : Expr) : Bool := match m, x with
  | .e (.cmp op a b), .Compare xa [op'] [xb] _ => decide (op = op') && !behindInMarks op xb && r c (.e a xa) && r c (.e b xb)
  | .e (.chain o1 o2 a b d), .Compare xa [p1, p2] [xb, xd] _ => decide (o1 = p1) && decide (o2 = p2) && !lastMarks [o1, o2] [xb, xd] && r c (.e a xa) && r c (.e b xb) && r c (.e d xd)
  | .not t, .UnaryOp .Not x _ => r c (.t t x)
  | .and a b, .BoolOp .And (xa :: xb :: w) _ => r c (.t a xa) && r c (.ta b .And (xb :: w))
  | .or a b, .BoolOp .Or (xa :: xb :: w) _ => r c (.t a xa) && r c (.ta b .Or (xb :: w))
  | .e a, x => plainTest x && r c (.e a x)
  | _, _ => false
def stepTA (r : TC → Jb → Bool) (c : TC) (m : T) (op : BoolOp) (xs : List Expr) : Bool := match xs with
  | [x] => r c (.t m x)
  | xa :: xb :: w => match m, op with
    | .and a b, .And => r c (.t a xa) && r c (.ta b .And (xb :: w))
    | .or a b, .Or => r c (.t a xa) && r c (.ta b .Or (xb :: w))
    | _, _ => false
  | _ => false
def stepC (r : TC → Jb → Bool) (c : TC) (m : T) (xs : List Expr) : Bool := match m, xs with
  | .tt, [] => true
  | t, [x] => r c (.t t x)
  | _, _ => false
def stepI (r : TC → Jb → Bool) (c : TC) (m : IT) (x : Expr) : Bool := match m, x with
  | .rng1 a, .Call (.Name y _) [xa] [] _ => y == ("range" : Str) && isGl c y && !isStar xa && r c (.e a xa)
  | .rng2 a b, .Call (.Name y _) [xa, xb] [] _ => y == ("range" : Str) && isGl c y && !isStar xa && !isStar xb && r c (.e a xa) && r c (.e b xb)
  | .rng3 a b d, .Call (.Name y _) [xa, xb, xd] [] _ => y == ("range" : Str) && isGl c y && !isStar xa && !isStar xb && !isStar xd && r c (.e a xa) && r c (.e b xb) && r c (.e d xd)
  | .rev1 a, .Call (.Name z _) [.Call (.Name y _) [xa] [] _] [] _ => z == ("reversed" : Str) && isGl c z && y == ("range" : Str) && isGl c y && !isStar xa && r c (.e a xa)
  | .seq a, x => r c (.e a x)
  | _, _ => false
def stepG (r : TC → Jb → Bool) (c : TC) (m : Tg) (x : Expr) : Bool := match m, x with
  | .v i, .Name y _ => isTo c i y
  | .t is, .Tuple xs _ _ => r c (.gs is xs)
  | _, _ => false
def stepGS (r : TC → Jb → Bool) (c : TC) (m : List Nat) (xs : List Expr) : Bool := match m, xs with
  | [], [] => true
  | i :: w, .Name y _ :: xs => isTo c i y && r c (.gs w xs)
  | _, _ => false
def stepS (r : TC → Jb → Bool) (c : TC) (m : S) (x : Stmt) : Bool := match m, x with
  | .bad, _ => true
  | .asg (.v i) e, .Assign [.Name y py] xe _ => isTo c i y && (match swB c xe y py with
    | true => look c y == some .local && (match e, xe with
      | .lc ws tg it cond elt, .ListComp xe [⟨xt, xi, xc, 0⟩] scope _ => lcC r c ws tg it cond elt xe xt xi xc scope
      | .lc2 ws ws1 tg it cond tg1 it1 cond1 elt, .ListComp xe [⟨xt, xi, xc, 0⟩, ⟨xt1, xi1, xc1, 0⟩] scope _ => lc2C r c ws ws1 tg it cond tg1 it1 cond1 elt xe xt xi xc xt1 xi1 xc1 scope
      | _, _ => false)
    | false => (match xe with | .ListComp _ _ _ _ => true | x => notComp x) && r c (.e e xe))
  | .asg (.t is) e, .Assign [.Tuple xs k p] xe _ => r c (.g (.t is) (.Tuple xs k p)) && r c (.e e xe) && notComp xe && (notTuple xe || (match xe with | .Tuple vs _ _ => (match swOf xs vs c.sc with | some none => true | _ => false) | _ => false))
  | .par [i, j] es, .Assign [.Tuple [.Name y py, .Name z pz] kt pt] (.Tuple [xa, xb] _ _) _ => isTo c i y && isTo c j z && i != j && look c y == some .local && look c z == some .local && (swOf [.Name y py, .Name z pz] [xa, xb] c.sc == some (some [y, z])) && r c (.l es [xa, xb])
  | .par [i, j, l] es, .Assign [.Tuple [.Name y py, .Name z pz, .Name w pw] kt pt] (.Tuple [xa, xb, xd] _ _) _ => isTo c i y && isTo c j z && isTo c l w && i != j && i != l && j != l && look c y == some .local && look c z == some .local && look c w == some .local && (swOf [.Name y py, .Name z pz, .Name w pw] [xa, xb, xd] c.sc == some (some [y, z, w])) && r c (.l es [xa, xb, xd])
  | .sub i k e, .Assign [.Subscript (.Name y _) xk _] xe _ => c.N[i]? == some y && isVis c y && notSlice xk && notComp xe && r c (.e k xk) && r c (.e e xe)
  | .aug i .Add e, .AugAssign (.Name y _) .Add xe _ => isTo c i y && r c (.e e xe)
  | .pass, .Expr (.Constant (.str _) _ _) _ => true
  | .ex e, .Expr xe _ => notComp xe && r c (.e e xe)
  | .ife t a b, .If xt xa xb _ => r c (.t t xt) && r c (.ss a xa) && r c (.ss b xb)
  | .for_ tg it b, .For xt xi xb [] _ => notSet xi && r c (.g tg xt) && r c (.i it xi) && r c (.ss b xb)
  | .whl t b, .While xt xb [] _ => r c (.t t xt) && r c (.ss b xb)
  | .ret e, .Return (some xe) _ => r c (.e e xe)
  | .retn, .Return none _ => true
  | .brk, .Break _ => true
  | .cnt, .Continue _ => true
  | .pass, .Pass _ => true
  | _, _ => false
def stepSS (r : TC → Jb → Bool) (c : TC) (m : SL) (xs : List Stmt) : Bool := match m, xs with
  | .nil, [] => true
  | .cons s w, x :: xs => r c (.s s x) && r c (.ss w xs)
  | _, _ => false
def tie : Nat → TC → Jb → Bool
  | 0, _, _ => false
  | n + 1, c, j => match j with
    | .e m x => stepE (tie n) c m x
    | .ea m op xs => stepEA (tie n) c m op xs
    | .l m xs => stepL (tie n) c m xs
    | .k m xs => stepK (tie n) c m xs
    | .o m x => stepO (tie n) c m x
    | .t m x => stepT (tie n) c m x
    | .ta m op xs => stepTA (tie n) c m op xs
    | .c m xs => stepC (tie n) c m xs
    | .i m x => stepI (tie n) c m x
    | .g m x => stepG (tie n) c m x
    | .gs m xs => stepGS (tie n) c m xs
    | .s m x => stepS (tie n) c m x
    | .ss m xs => stepSS (tie n) c m xs
end Q
end
section
set_option maxHeartbeats 2000000
namespace Q
open PySem PySem.Spec PyProof.Rows
open L2 hiding cutV
def OkJ (c : TC) : Jb → Prop
  | .e m x => ∀ lv X B C, XOk c lv X B C → PE X x (tE B C m)
  | .l m xs => (∀ lv X B C, XOk c lv X B C → PA X xs (tL B C m)) ∧ (∀ x ∈ xs, isStar x = false) ∧ (xs = [] → m = .nil) ∧ m.len = xs.length
  | .k m xs => (∀ lv X B C, XOk c lv X B C → PK X xs (tL B C m)) ∧ m.len = xs.length
  | .t m x => ∀ lv X B C, XOk c lv X B C → PT X x (tT B C m)
  | .ta m op xs => ∀ lv X B C pos, XOk c lv X B C → PW X (.BoolOp op xs pos) (tT B C m)
  | .ea m op xs => ∀ lv X B C pos, XOk c lv X B C → PE X (.BoolOp op xs pos) (tE B C m)
  | .o m x => ∀ lv X B C, XOk c lv X B C → PO X x (tO B C m)
  | .i m x => ∀ lv X B C tg, XOk c lv X B C → PI X tg x (tI B C m)
  | .g m x => ∀ lv X B C, XOk c lv X B C → PG X x (gTg X.K m)
  | .gs m xs => ∀ lv X B C, XOk c lv X B C → PGs X xs (gNames m) ∧ (assignEach xs X.env).length = m.length ∧ (assignEach xs X.env).findIdx? (·.1) = none
  | .c m xs => ∀ lv X B C, XOk c lv X B C → PTs X xs (tT B C m)
  | .s m x => ∀ lv X B C, XOk c lv X B C → PassesOwn (model X.prog X.w) X.A X.env X.xe → PS X x (tS B C m)
  | .ss m xs => ∀ lv X B C, XOk c lv X B C → PassesOwn (model X.prog X.w) X.A X.env X.xe → PSs X xs (tSs B C m)
section
variable {c : TC} {lv : Nat} {X : Cx} {B : Bs} {C : Ctx}
theorem XOk.vis (k : XOk c lv X B C) {y : Str} (h : isVis c y = true) : Vis X.env.scope y ∧ (y == ("__debug__" : Str)) = false ∧ (y == ("__classdict__" : Str)) = false := by
  unfold isVis look at h
  simp only [Bool.and_eq_true, Bool.or_eq_true, beq_iff_eq, Bool.not_eq_true'] at h
  obtain ⟨⟨h1, h2⟩, h3⟩ := h
  refine ⟨?_, h2, h3⟩
  unfold Vis
  rw [k.sc]
  rcases h1 with (h1 | h1) | h1
  · exact .inl h1
  · exact .inr (.inl h1)
  · exact .inr (.inr h1)
theorem XOk.gl (k : XOk c lv X B C) {y : Str} (h : isGl c y = true) : Gl X y ∧ (y == ("__debug__" : Str)) = false := by
  unfold isGl look at h
  simp only [Bool.and_eq_true, beq_iff_eq, Bool.not_eq_true'] at h
  refine ⟨?_, h.2⟩
  show X.env.scope.names.lookup y = _
  rw [k.sc]
  exact h.1
theorem XOk.to (k : XOk c lv X B C) {i : Nat} {y : Str} (h : isTo c i y = true) : X.N[i]? = some y ∧ Loc X.env.scope y ∧ (X.fn y = true ∨ X.env.scope.names.lookup y = some .local) := by
  unfold isTo look at h
  simp only [Bool.and_eq_true, Bool.or_eq_true, beq_iff_eq] at h
  obtain ⟨h1, h2⟩ := h
  refine ⟨by rw [k.N]; exact h1, ?_, ?_⟩
  · unfold L2.Loc
    rw [k.sc]
    exact h2.imp id fun z => z.1
  · rw [k.sc, k.fn]
    rcases h2 with z | z
    · exact .inr z
    · exact .inl z.2
theorem XOk.at (k : XOk c lv X B C) {i : Nat} {y : Str} (h : (c.N[i]? == some y) = true) : X.N[i]? = some y := by
  rw [k.N]
  simpa using h
theorem XOk.blk_ok (k : XOk c lv X B C) {ws : List Nat} {scope : Scope} (h : blkC c.N c.sc scope (ownOf c ws) = true) : BlkOk X.N X.env.scope scope (ownOf c ws) := by
  rw [k.N, k.sc]
  exact blkOk_by h
theorem own_ix (c : TC) (ws : List Nat) : (ownOf c ws).map (·.2) = ws := by
  unfold ownOf
  rw [List.map_map]
  exact List.map_id' ws
theorem fold_of {it : Expr} (h : notSet it = true) (env : PySem.Env) (x : Value) : foldedSetIterable it env x = pure x := by
  cases it <;> first
    | rfl
    | cases h
theorem plain_of {b : Expr} (h : notSlice b = true) : PlainIx b := by
  intro o i
  cases b <;> first
    | rfl
    | cases h
theorem test_of {a : Expr} (h : plainTest a = true) (env : PySem.Env) (whole : Sem Value) : isTrue a env whole = (do let v ← whole; standAt a.pos; holding [v] (PySem.truthy v)) := by
  cases a with
  | UnaryOp op x p => cases op <;> first
      | rfl
      | cases h
  | _ => first
      | rfl
      | cases h
theorem call_hs {xs : List Expr} (h : ∀ x ∈ xs, isStar x = false) (pos : Pos) (env : PySem.Env) {e : Expr} {es : List Expr} (q : xs = e :: es) : starEach (e :: es) env = (false, eval e env) :: starEach es env ∧ (backTo pos (starEach es env)).any (·.1) = false := by
  subst q
  exact ⟨star_of (h e (.head _)) es env, backTo_plain pos env es fun x hx => h x (.tail _ hx)⟩
theorem pts_tt : PTs X [] (tT B C .tt) := ⟨fun pins s σ H Qk I ⟨γ, st, S, h⟩ => pts_nil.run pins s σ H Qk I (by
  rw [tst] at h
  exact h true H γ Tr.refl S rfl)⟩
variable {r : TC → Jb → Bool} (IH : ∀ c j, r c j = true → OkJ c j)
include IH
theorem tie_l {m : EL} {xs : List Expr} (h : stepL r c m xs = true) : OkJ c (.l m xs) := by
  unfold stepL at h
  split at h
  · exact ⟨fun _ _ _ _ _ => s_nil, fun x hx => (by cases hx), fun _ => rfl, rfl⟩
  · simp only [Bool.and_eq_true, Bool.not_eq_true'] at h
    obtain ⟨⟨h1, h2⟩, h3⟩ := h
    obtain ⟨a, b, d, e⟩ := IH _ _ h3
    refine ⟨fun lv X B C k => s_cons (IH _ _ h2 lv X B C k) (a lv X B C k) (star_of h1 _ _), fun x hx => ?_, fun z => (by cases z), by rw [EL.len, e, List.length_cons]⟩
    rcases List.mem_cons.mp hx with rfl | hx
    · exact h1
    · exact b x hx
  · cases h
theorem tie_k {m : EL} {xs : List Keyword} (h : stepK r c m xs = true) : OkJ c (.k m xs) := by
  unfold stepK at h
  split at h
  · exact ⟨fun _ _ _ _ _ => s_knil, rfl⟩
  · simp only [Bool.and_eq_true] at h
    obtain ⟨a, e⟩ := IH _ _ h.2
    exact ⟨fun lv X B C k => s_kcons (IH _ _ h.1 lv X B C k) (a lv X B C k), by rw [EL.len, e, List.length_cons]⟩
  · cases h
theorem tie_o {m : OE} {x : Option Expr} (h : stepO r c m x = true) : OkJ c (.o m x) := by
  unfold stepO at h
  split at h
  · exact fun _ _ _ _ _ => s_no
  · exact fun lv X B C k => s_yes (IH _ _ h lv X B C k)
  · cases h
theorem tie_ea {m : E} {op : BoolOp} {xs : List Expr} (h : stepEA r c m op xs = true) : OkJ c (.ea m op xs) := by
  unfold stepEA at h
  split at h
  · exact fun lv X B C pos k => pe_one (IH _ _ h lv X B C k)
  · split at h
    · simp only [Bool.and_eq_true] at h
      exact fun lv X B C pos k => s_and (IH _ _ h.1 lv X B C k) (IH _ _ h.2 lv X B C pos k)
    · simp only [Bool.and_eq_true] at h
      exact fun lv X B C pos k => s_or (IH _ _ h.1 lv X B C k) (IH _ _ h.2 lv X B C pos k)
    · cases h
  · cases h
theorem tie_ta {m : T} {op : BoolOp} {xs : List Expr} (h : stepTA r c m op xs = true) : OkJ c (.ta m op xs) := by
  unfold stepTA at h
  split at h
  · intro lv X B C pos k
    cases op with
    | And => exact pw_and1 (IH _ _ h lv X B C k)
    | Or => exact pw_or1 (IH _ _ h lv X B C k)
  · split at h
    · simp only [Bool.and_eq_true] at h
      exact fun lv X B C pos k => s_tand (IH _ _ h.1 lv X B C k) (IH _ _ h.2 lv X B C pos k)
    · simp only [Bool.and_eq_true] at h
      exact fun lv X B C pos k => s_tor (IH _ _ h.1 lv X B C k) (IH _ _ h.2 lv X B C pos k)
    · cases h
  · cases h
theorem tie_c {m : T} {xs : List Expr} (h : stepC r c m xs = true) : OkJ c (.c m xs) := by
  unfold stepC at h
  split at h
  · exact fun _ _ _ _ _ => pts_tt
  · exact fun lv X B C k => pts_one (IH _ _ h lv X B C k)
  · cases h
theorem tie_t {m : T} {x : Expr} (h : stepT r c m x = true) : OkJ c (.t m x) := by
  unfold stepT at h
  split at h
  · simp only [Bool.and_eq_true, decide_eq_true_eq, Bool.not_eq_true'] at h
    obtain ⟨⟨⟨rfl, h1⟩, h2⟩, h3⟩ := h
    exact fun lv X B C k => s_tcmp k.K k.room (IH _ _ h2 lv X B C k) (IH _ _ h3 lv X B C k) h1
  · simp only [Bool.and_eq_true, decide_eq_true_eq, Bool.not_eq_true'] at h
    obtain ⟨⟨⟨⟨⟨rfl, rfl⟩, h1⟩, h2⟩, h3⟩, h4⟩ := h
    exact fun lv X B C k => s_tchain k.K k.room (IH _ _ h2 lv X B C k) (IH _ _ h3 lv X B C k) (IH _ _ h4 lv X B C k) h1
  · exact fun lv X B C k => s_tnot (IH _ _ h lv X B C k)
  · simp only [Bool.and_eq_true] at h
    exact fun lv X B C k => (s_tand (IH _ _ h.1 lv X B C k) (IH _ _ h.2 lv X B C _ k)).pt
  · simp only [Bool.and_eq_true] at h
    exact fun lv X B C k => (s_tor (IH _ _ h.1 lv X B C k) (IH _ _ h.2 lv X B C _ k)).pt
  · simp only [Bool.and_eq_true] at h
    exact fun lv X B C k => s_te k.K (IH _ _ h.2 lv X B C k) (test_of h.1 _)
  · cases h
theorem tie_i {m : IT} {x : Expr} (h : stepI r c m x = true) : OkJ c (.i m x) := by
  unfold stepI at h
  split at h
  · simp only [Bool.and_eq_true, beq_iff_eq, Bool.not_eq_true'] at h
    obtain ⟨⟨⟨rfl, h1⟩, h2⟩, h3⟩ := h
    exact fun lv X B C tg k => s_rng1 k.K (k.gl h1).1 (k.blt _ (by decide)) h2 (IH _ _ h3 lv X B C k)
  · simp only [Bool.and_eq_true, beq_iff_eq, Bool.not_eq_true'] at h
    obtain ⟨⟨⟨⟨⟨rfl, h1⟩, h2⟩, h3⟩, h4⟩, h5⟩ := h
    exact fun lv X B C tg k => s_rng2 k.K (k.gl h1).1 (k.blt _ (by decide)) h2 h3 (IH _ _ h4 lv X B C k) (IH _ _ h5 lv X B C k)
  · simp only [Bool.and_eq_true, beq_iff_eq, Bool.not_eq_true'] at h
    obtain ⟨⟨⟨⟨⟨⟨⟨rfl, h1⟩, h2⟩, h3⟩, h4⟩, h5⟩, h6⟩, h7⟩ := h
    exact fun lv X B C tg k => s_rng3 k.K (k.gl h1).1 (k.blt _ (by decide)) h2 h3 h4 (IH _ _ h5 lv X B C k) (IH _ _ h6 lv X B C k) (IH _ _ h7 lv X B C k)
  · simp only [Bool.and_eq_true, beq_iff_eq, Bool.not_eq_true'] at h
    obtain ⟨⟨⟨⟨⟨rfl, h1⟩, rfl⟩, h3⟩, h4⟩, h5⟩ := h
    exact fun lv X B C tg k => s_rev1 k.K (k.gl h3).1 (k.blt _ (by decide)) (k.gl h1).1 (k.blt _ (by decide)) h4 (IH _ _ h5 lv X B C k)
  · exact fun lv X B C tg k => s_itseq k.K (IH _ _ h lv X B C k)
  · cases h
theorem tie_gs {m : List Nat} {xs : List Expr} (h : stepGS r c m xs = true) : OkJ c (.gs m xs) := by
  unfold stepGS at h
  split at h
  · exact fun _ _ _ _ _ => ⟨pgs_nil, rfl, rfl⟩
  · simp only [Bool.and_eq_true] at h
    intro lv X B C k
    obtain ⟨h1, h2, h3⟩ := k.to h.1
    obtain ⟨g1, g2, g3⟩ := IH _ _ h.2 lv X B C k
    refine ⟨pgs_cons (pg_name k.nd h1 h2 h3) g1 rfl, ?_, ?_⟩
    · show (_ :: assignEach _ X.env).length = _
      rw [List.length_cons, g2, List.length_cons]
    · show List.findIdx? _ ((false, _) :: assignEach _ X.env) = none
      rw [List.findIdx?_cons]
      simp [g3]
  · cases h
theorem tie_g {m : Tg} {x : Expr} (h : stepG r c m x = true) : OkJ c (.g m x) := by
  unfold stepG at h
  split at h
  · intro lv X B C k
    obtain ⟨h1, h2, h3⟩ := k.to h
    exact pg_name k.nd h1 h2 h3
  · intro lv X B C k
    obtain ⟨g1, g2, g3⟩ := IH _ _ h lv X B C k
    exact pg_tup k.calm g1 g2 g3
  · cases h
theorem arg2 {xs : List Expr} {m : EL} (q : OkJ c (.l m xs)) (k : XOk c lv X B C) {x : Expr} {r : List Expr} {pos : Pos} (hx : xs = x :: r) : PA X (x :: r) (tL B C m) ∧ starEach (x :: r) X.env = (false, eval x X.env) :: starEach r X.env ∧ (backTo pos (starEach r X.env)).any (·.1) = false := by
  subst hx
  exact ⟨q.1 lv X B C k, call_hs q.2.1 pos X.env rfl⟩
omit IH in
theorem blt_ok {f : BF} {y : Str} {x : Expr} {xs : List Expr} {m : EL} {p pos : Pos} (q : OkJ c (.l m (x :: xs))) (k : XOk c lv X B C) (hf : bfName f = some y) (hg : isGl c y = true) : PE X (.Call (.Name y p) (x :: xs) [] pos) (tE B C (.blt f m)) := by
  obtain ⟨g1, g2⟩ := k.gl hg
  obtain ⟨s1, s2⟩ := call_hs (pos := pos) (env := X.env) q.2.1 rfl
  have ha := q.1 lv X B C k
  cases f <;> cases hf
  · exact s_blt k.K (pe_callB cLen g1 (k.blt _ (by decide)) rfl ha (by decide) g2 s1 s2) fun _ _ _ h => h
  · exact s_blt k.K (pe_callTy cInt g1 (k.blt _ (by decide)) rfl ha (by decide) g2 s1 s2) fun _ _ _ h => h
  · exact s_blt k.K (pe_callB cAbs g1 (k.blt _ (by decide)) rfl ha (by decide) g2 s1 s2) fun _ _ _ h => h
  · exact s_blt k.K (pe_callTy cTuple g1 (k.blt _ (by decide)) rfl ha (by decide) g2 s1 s2) fun _ _ _ h => h
  · exact s_blt k.K (pe_callTy cList g1 (k.blt _ (by decide)) rfl ha (by decide) g2 s1 s2) fun _ _ _ h => h
  · exact s_blt k.K (pe_callB (cAll k.calm) g1 (k.blt _ (by decide)) rfl ha (by decide) g2 s1 s2) fun _ _ _ h => h
  · exact s_blt k.K (pe_callB (cRepr k.room k.gd) g1 (k.blt _ (by decide)) rfl ha (by decide) g2 s1 s2) fun _ _ _ h => h
  · exact s_blt k.K (pe_callTy cStr g1 (k.blt _ (by decide)) rfl ha (by decide) g2 s1 s2) fun _ _ _ h => h
  · exact s_blt k.K (pe_callTy cBool g1 (k.blt _ (by decide)) rfl ha (by decide) g2 s1 s2) fun _ _ _ h => h
  · exact s_blt k.K (pe_callB (cMax k.calm) g1 (k.blt _ (by decide)) rfl ha (by decide) g2 s1 s2) fun _ _ _ h => h
  · exact s_blt k.K (pe_callB (cMin k.calm) g1 (k.blt _ (by decide)) rfl ha (by decide) g2 s1 s2) fun _ _ _ h => h
omit IH in
theorem few_of {xs : List Expr} (h : ∀ x ∈ xs, isStar x = false) (hl : xs.length < 3) (pos : Pos) (env : PySem.Env) : ((backTo pos (starEach xs env)).all (fun x => !x.1) && (backToKw pos (keywordEach [] env)).all (fun x => x.1.isSome) && decide (xs.length + ([] : List Keyword).length + (if ([] : List Keyword).isEmpty then 0 else 1) < 30)) = true := by
  have h1 : (backTo pos (starEach xs env)).all (fun x => !x.1) = true := by
    have := backTo_plain pos env xs h
    rw [List.all_eq_true]
    intro y hy
    rw [List.any_eq_false] at this
    simpa using this y hy
  rw [h1]
  have : decide (xs.length + ([] : List Keyword).length + (if ([] : List Keyword).isEmpty then 0 else 1) < 30) = true := by simp; omega
  rw [this]
  rfl
omit IH in
theorem mut_ok {m : MM} {i : Nat} {y : Str} {xs : List Expr} {ms : EL} {p ap pos : Pos} (q : OkJ c (.l ms xs)) (k : XOk c lv X B C) (hi : X.N[i]? = some y) (hv : Vis X.env.scope y) (h1 : (y == ("__debug__" : Str)) = false) (h2 : (y == ("__classdict__" : Str)) = false) (hline : (ap.endLine == pos.line) = true) (hl : xs.length < 3)
    (hm : (match m, ms.len with | .append, 1 => true | .extend, 1 => true | .pop, 0 => true | .popAt, 1 => true | .insert, 2 => true | .clear, 0 => true | _, _ => false) = true) : PE X (.Call (.Attribute (.Name y p) (mmName m) ap) xs [] pos) (tE B C (.mut m i ms)) := by
  have pv : PE X (.Name y p) (tVar i) := pe_var hi hv h1 h2
  have ha := q.1 lv X B C k
  have few := few_of q.2.1 hl pos X.env
  cases xs with
  | nil =>
    have hz : ms.len = 0 := q.2.2.2
    have hn := q.2.2.1 rfl
    rw [hz] at hm
    have z : ∀ {σ : L2.St} {H : Hp} {Qk : VK}, tE B C (.mut m i ms) σ H Qk → tBM0 X.K "list" (rMut X.K m) (tVar i) σ H Qk := fun {σ H Qk} h => by
      obtain ⟨v, e, ty, h⟩ := s_mutG (m := m) (i := i) (t := fun σ H Qk => Qk [] H) k.K (fun σ H Qk h => by
        rw [hn] at h
        obtain ⟨γ, st, S, h⟩ := h
        rw [evL] at h
        exact h [] H γ Tr.refl S .nil) h
      exact ⟨v, e, ty, h⟩
    cases m <;> first
      | (cases hm; done)
      | skip
    · exact PE.mono (pe_bm0 PySem.F.plainAttrs_list PySem.F.slot_list_pop PySem.F.type_list_pop mPop pv rfl hline) fun σ H Qk h => z h
    · exact PE.mono (pe_bm0 PySem.F.plainAttrs_list PySem.F.slot_list_clear PySem.F.type_list_clear mClear pv rfl hline) fun σ H Qk h => z h
  | cons x r =>
    obtain ⟨s1, s2⟩ := call_hs (pos := pos) (env := X.env) q.2.1 rfl
    have hz : ms.len = (x :: r).length := q.2.2.2
    have hne : ms.len ≠ 0 := by rw [hz]; simp
    cases m with
    | append => exact PE.mono (pe_bm PySem.F.plainAttrs_list PySem.F.slot_list_append PySem.F.type_list_append mAppend pv ha rfl few hline s1 s2) fun σ H Qk h => s_mutG k.K (fun _ _ _ h => h) h
    | extend => exact PE.mono (pe_bm PySem.F.plainAttrs_list PySem.F.slot_list_extend PySem.F.type_list_extend mExtend pv ha rfl few hline s1 s2) fun σ H Qk h => s_mutG k.K (fun _ _ _ h => h) h
    | popAt => exact PE.mono (pe_bm PySem.F.plainAttrs_list PySem.F.slot_list_pop PySem.F.type_list_pop mPopAt pv ha rfl few hline s1 s2) fun σ H Qk h => s_mutG k.K (fun _ _ _ h => h) h
    | insert => exact PE.mono (pe_bm PySem.F.plainAttrs_list PySem.F.slot_list_insert PySem.F.type_list_insert mInsert pv ha rfl few hline s1 s2) fun σ H Qk h => s_mutG k.K (fun _ _ _ h => h) h
    | pop =>
      exfalso
      split at hm <;> first
        | (cases hm; done)
        | (rename_i e; exact hne e)
        | simp_all
    | clear =>
      exfalso
      split at hm <;> first
        | (cases hm; done)
        | (rename_i e; exact hne e)
        | simp_all
omit IH in
theorem ty_of (t : CT) : bootBuiltins (ctName t) = some (.type t.name) ∧ ctName t ≠ "__name__" ∧ ctName t ∈ bltNames := by
  cases t <;> exact ⟨rfl, by decide, by decide⟩
end
end Q
end
section
set_option maxHeartbeats 2000000
namespace Q
open PySem PySem.Spec PyProof.Rows
open L2 hiding cutV
section
variable {c : TC} {lv : Nat} {X : Cx} {B : Bs} {C : Ctx}
theorem s_bad {x : Expr} : PE X x (tE B C .bad) := ⟨fun _ _ _ _ _ _ ⟨γ, st, S, h⟩ => by
  rw [ev] at h
  exact h.elim⟩
theorem s_sbad {x : Stmt} : PS X x (tS B C .bad) := ⟨fun _ _ _ _ _ _ ⟨γ, st, S, h⟩ => by
  rw [ex] at h
  exact h.elim⟩
theorem kw_arg : ∀ {kws : List Keyword} {nm : List Str}, kwNames kws = some nm → kws.map (·.arg) = nm.map some := by
  intro kws
  unfold kwNames
  induction kws with
  | nil => intro nm h; simp at h; subst h; rfl
  | cons a r ih =>
    intro nm h
    simp only [List.mapM_cons, Option.bind_eq_bind] at h
    obtain ⟨x, h1, h⟩ := Option.bind_eq_some_iff.mp h
    obtain ⟨y, h2, h⟩ := Option.bind_eq_some_iff.mp h
    cases h
    rw [List.map_cons, List.map_cons, h1, ih h2]
theorem ca_eq : ∀ {x y : List CA}, kbOk.caEq x y = true → x = y
  | [], [], _ => rfl
  | .a i :: r, .a j :: t, h => by
    simp only [kbOk.caEq, Bool.and_eq_true, beq_iff_eq] at h
    rw [h.1, ca_eq h.2]
  | .d .non :: r, .d .non :: t, h => by
    rw [ca_eq (x := r) (y := t) h]
  | .d (.int i) :: r, .d (.int j) :: t, h => by
    simp only [kbOk.caEq, Bool.and_eq_true, decide_eq_true_eq] at h
    rw [h.1, ca_eq h.2]
  | .d (.bl i) :: r, .d (.bl j) :: t, h => by
    simp only [kbOk.caEq, Bool.and_eq_true, beq_iff_eq] at h
    rw [h.1, ca_eq h.2]
  | .d (.str i) :: r, .d (.str j) :: t, h => by
    simp only [kbOk.caEq, Bool.and_eq_true, decide_eq_true_eq] at h
    rw [h.1, ca_eq h.2]
theorem kb_of {f : Str} {n : Nat} {ks : List Str} {pm : List CA} (h : kbOk c f n ks pm = true) : ∃ b ∈ c.kbs, b.f = f ∧ b.n = n ∧ b.ks = ks ∧ b.pm = pm := by
  unfold kbOk at h
  obtain ⟨b, hb, h⟩ := List.any_eq_true.mp h
  simp only [Bool.and_eq_true, beq_iff_eq] at h
  obtain ⟨⟨⟨h1, h2⟩, h3⟩, h4⟩ := h
  exact ⟨b, hb, h1, h2, h3, ca_eq h4⟩
theorem lc_ok {r : TC → Jb → Bool} (IH : ∀ c j, r c j = true → OkJ c j) {ws : List Nat} {tg : Tg} {it : IT} {cond : T} {elt : E} {xe xt xi : Expr} {xc : List Expr} {scope : Scope}
    (h : lcC r c ws tg it cond elt xe xt xi xc scope = true) (k : XOk c lv X B C) :
    BlkOk X.N X.env.scope scope (ownOf c ws) ∧ (∀ i ∈ tg.slots, i ∈ ws) ∧ (∀ x, foldedSetIterable xi X.env x = pure x) ∧ PI X xt xi (tI B C it) ∧
      (∀ (s : Shared) (H : Hp) (L : Addr) (cl : List (Str × Addr)) (fp : List Addr), PG (X.blk s H scope (compEnvC scope cl L X.env) fp) xt (gTg B.K tg)) ∧ (∀ (s : Shared) (H : Hp) (L : Addr) (cl : List (Str × Addr)) (fp : List Addr), PTs (X.blk s H scope (compEnvC scope cl L X.env) fp) xc (tT B.off C cond)) ∧
      ∀ (s : Shared) (H : Hp) (L : Addr) (cl : List (Str × Addr)) (fp : List Addr), PE (X.blk s H scope (compEnvC scope cl L X.env) fp) xe (tE B.off C elt) := by
  unfold lcC at h
  simp only [Bool.and_eq_true, List.all_eq_true, List.contains_iff_mem] at h
  obtain ⟨⟨⟨⟨⟨⟨h1, h2⟩, h3⟩, h4⟩, h5⟩, h6⟩, h7⟩ := h
  exact ⟨k.blk_ok h1, h2, fold_of h3 _, IH _ _ h4 lv X B C xt k, fun s H L cl fp => by
    have := IH _ _ h5 lv _ _ C (k.blk scope s H L cl fp)
    rw [k.K]
    exact this, fun s H L cl fp => IH _ _ h6 lv _ _ C (k.blk scope s H L cl fp), fun s H L cl fp => IH _ _ h7 lv _ _ C (k.blk scope s H L cl fp)⟩
theorem lc2_ok {r : TC → Jb → Bool} (IH : ∀ c j, r c j = true → OkJ c j) {ws ws1 : List Nat} {tg tg1 : Tg} {it it1 : IT} {cond cond1 : T} {elt : E} {xe xt xi xt1 xi1 : Expr} {xc xc1 : List Expr} {scope : Scope}
    (h : lc2C r c ws ws1 tg it cond tg1 it1 cond1 elt xe xt xi xc xt1 xi1 xc1 scope = true) (k : XOk c lv X B C) :
    BlkOk X.N X.env.scope scope (ownOf c ws) ∧ (∀ i ∈ tg.slots, i ∈ ws) ∧ (∀ i ∈ tg1.slots, i ∈ ws1) ∧ (∀ i ∈ ws1, i ∈ (ownOf c ws).map (·.2)) ∧ (∀ x, foldedSetIterable xi X.env x = pure x) ∧ (∀ env x, foldedSetIterable xi1 env x = pure x) ∧ PI X xt xi (tI B C it) ∧
      (∀ (s : Shared) (H : Hp) (L : Addr) (cl : List (Str × Addr)) (fp : List Addr), PG (X.blk s H scope (compEnvC scope cl L X.env) fp) xt (gTg B.K tg)) ∧ (∀ (s : Shared) (H : Hp) (L : Addr) (cl : List (Str × Addr)) (fp : List Addr), PTs (X.blk s H scope (compEnvC scope cl L X.env) fp) xc (tT B.off C cond)) ∧
      (∀ (s : Shared) (H : Hp) (L : Addr) (cl : List (Str × Addr)) (fp : List Addr), PI (X.blk s H scope (compEnvC scope cl L X.env) fp) xt1 xi1 (tI B.off C it1)) ∧
      (∀ (s : Shared) (H : Hp) (L : Addr) (cl : List (Str × Addr)) (fp : List Addr), PG (X.blk s H scope (compEnvC scope cl L X.env) fp) xt1 (gTg B.K tg1)) ∧ (∀ (s : Shared) (H : Hp) (L : Addr) (cl : List (Str × Addr)) (fp : List Addr), PTs (X.blk s H scope (compEnvC scope cl L X.env) fp) xc1 (tT B.off C cond1)) ∧
      ∀ (s : Shared) (H : Hp) (L : Addr) (cl : List (Str × Addr)) (fp : List Addr), PE (X.blk s H scope (compEnvC scope cl L X.env) fp) xe (tE B.off C elt) := by
  unfold lc2C at h
  simp only [Bool.and_eq_true, List.all_eq_true, List.contains_iff_mem] at h
  obtain ⟨⟨⟨⟨⟨⟨⟨⟨⟨⟨⟨⟨h1, h2⟩, h2'⟩, h2''⟩, h3⟩, h3'⟩, h4⟩, h5⟩, h6⟩, h7⟩, h8⟩, h9⟩, h10⟩ := h
  refine ⟨k.blk_ok h1, h2, h2', fun i hi => by rw [own_ix]; exact h2'' i hi, fold_of h3 _, fun env x => fold_of h3' env x, IH _ _ h4 lv X B C xt k, fun s H L cl fp => ?_, fun s H L cl fp => IH _ _ h6 lv _ _ C (k.blk scope s H L cl fp), fun s H L cl fp => IH _ _ h7 lv _ _ C _ (k.blk scope s H L cl fp), fun s H L cl fp => ?_,
    fun s H L cl fp => IH _ _ h9 lv _ _ C (k.blk scope s H L cl fp), fun s H L cl fp => IH _ _ h10 lv _ _ C (k.blk scope s H L cl fp)⟩
  · have := IH _ _ h5 lv _ _ C (k.blk scope s H L cl fp)
    rw [k.K]
    exact this
  · have := IH _ _ h8 lv _ _ C (k.blk scope s H L cl fp)
    rw [k.K]
    exact this
variable {r : TC → Jb → Bool} (IH : ∀ c j, r c j = true → OkJ c j)
include IH
theorem tie_e {m : E} {x : Expr} (h : stepE r c m x = true) : OkJ c (.e m x) := by
  unfold stepE at h
  split at h
  · exact fun _ _ _ _ _ => s_bad
  · exact fun _ _ _ _ _ => s_c pe_non fun _ _ _ => .non
  · rw [beq_iff_eq] at h
    subst h
    exact fun _ _ _ _ _ => s_c pe_bl fun _ _ _ => .bl _
  · rw [decide_eq_true_eq] at h
    subst h
    exact fun _ _ _ _ _ => s_c pe_int fun _ _ _ => .int _
  · rw [decide_eq_true_eq] at h
    subst h
    exact fun _ _ _ _ _ => s_c pe_str fun _ _ _ => .str _
  · simp only [Bool.and_eq_true] at h
    intro lv X B C k
    obtain ⟨v1, v2, v3⟩ := k.vis h.2
    exact s_var (pe_var (k.at h.1) v1 v2 v3)
  · rename_i op a b xa op' xb _
    simp only [Bool.and_eq_true, decide_eq_true_eq] at h
    obtain ⟨⟨⟨rfl, h1⟩, h2⟩, h3⟩ := h
    refine fun lv X B C k => s_bin k.K ?_ (IH _ _ h2 lv X B C k) (IH _ _ h3 lv X B C k)
    cases op <;> first
      | (cases h1; done)
      | simp
  · exact fun lv X B C k => s_neg k.K (IH _ _ h lv X B C k)
  · exact fun lv X B C k => s_not k.K (IH _ _ h lv X B C k)
  · simp only [Bool.and_eq_true] at h
    exact fun lv X B C k => s_and (IH _ _ h.1 lv X B C k) (IH _ _ h.2 lv X B C _ k)
  · simp only [Bool.and_eq_true] at h
    exact fun lv X B C k => s_or (IH _ _ h.1 lv X B C k) (IH _ _ h.2 lv X B C _ k)
  · simp only [Bool.and_eq_true, decide_eq_true_eq, Bool.not_eq_true'] at h
    obtain ⟨⟨⟨rfl, h1⟩, h2⟩, h3⟩ := h
    exact fun lv X B C k => s_cmp k.K k.room (IH _ _ h2 lv X B C k) (IH _ _ h3 lv X B C k) h1
  · simp only [Bool.and_eq_true, decide_eq_true_eq, Bool.not_eq_true'] at h
    obtain ⟨⟨⟨⟨⟨rfl, rfl⟩, h1⟩, h2⟩, h3⟩, h4⟩ := h
    exact fun lv X B C k => s_chain k.K k.room (IH _ _ h2 lv X B C k) (IH _ _ h3 lv X B C k) (IH _ _ h4 lv X B C k) h1
  · simp only [Bool.and_eq_true] at h
    exact fun lv X B C k => s_ifx (IH _ _ h.1.1 lv X B C k) (IH _ _ h.1.2 lv X B C k) (IH _ _ h.2 lv X B C k)
  · exact fun lv X B C k => s_tup ((IH _ _ h).1 lv X B C k)
  · exact fun lv X B C k => s_lst ((IH _ _ h).1 lv X B C k)
  · exact fun lv X B C k => s_dnew
  · simp only [Bool.and_eq_true] at h
    exact fun lv X B C k => s_sl k.K (IH _ _ h.1.1 lv X B C k) (IH _ _ h.1.2 lv X B C k) (IH _ _ h.2 lv X B C k)
  · simp only [Bool.and_eq_true] at h
    exact fun lv X B C k => s_idx k.K k.room (IH _ _ h.1.2 lv X B C k) (IH _ _ h.2 lv X B C k) (plain_of h.1.1)
  · simp only [Bool.and_eq_true, beq_iff_eq] at h
    obtain ⟨⟨⟨⟨rfl, h1⟩, h1'⟩, h2⟩, h3⟩ := h
    intro lv X B C k
    obtain ⟨a, fd, ps, f1, f2, f3, f4, _⟩ := k.fns _ h1
    obtain ⟨q1, q2, q3, _⟩ := IH _ _ h3
    exact s_call k.K k.mg k.call f3 k.gd k.room (k.gl h2).1 f1 f2 (f4 h1') k.tk (k.gl h2).2 (q1 lv X B C k) q2 q3
  · simp only [Bool.and_eq_true, beq_iff_eq] at h
    obtain ⟨⟨⟨⟨⟨rfl, h1⟩, h2⟩, hb⟩, h3⟩, h4⟩ := h
    split at hb
    · rename_i nm hn
      simp only [Bool.and_eq_true, beq_iff_eq] at hb
      intro lv X B C k
      obtain ⟨a, fd, ps, f1, f2, f3, f4, f5⟩ := k.fns _ h1
      obtain ⟨q1, q2, q3, _⟩ := IH _ _ h3
      obtain ⟨p1, p2⟩ := IH _ _ h4
      obtain ⟨b, b0, b1, b2, b3, b4⟩ := kb_of hb.1
      have pb := f5 b b0 b1
      rw [b2, b3, b4] at pb
      exact s_callp k.K k.mg k.call f3 k.gd k.room (k.gl h2).1 f1 f2 pb k.tk (k.gl h2).2 (q1 lv X B C k) (p1 lv X B C k) (kw_arg hn) hb.2 q2 q3
    · cases hb
  · simp only [Bool.and_eq_true, beq_iff_eq, Bool.not_eq_true'] at h
    obtain ⟨⟨⟨⟨⟨rfl, h1⟩, rfl⟩, h3⟩, h4⟩, h5⟩ := h
    intro lv X B C k
    refine s_isi k.K (pe_callB call_isi (k.gl h1).1 (k.blt _ (by decide)) rfl (pa_cons (IH _ _ h5 lv X B C k) (pa_cons (pe_bltn (k.gl h3).1 (k.blt _ (ty_of _).2.2) (ty_of _).1 rfl (ty_of _).2.1 (k.gl h3).2) pa_nil rfl) (star_of h4 _ _)) (by decide) (k.gl h1).2 (star_of h4 _ _) rfl)
  · simp only [Bool.and_eq_true, beq_iff_eq] at h
    exact fun lv X B C k => blt_ok (IH _ _ h.2) k h.1.1 h.1.2
  · simp only [Bool.and_eq_true, beq_iff_eq, decide_eq_true_eq] at h
    obtain ⟨⟨⟨⟨⟨⟨h1, h2⟩, rfl⟩, h4⟩, h5⟩, h6⟩, h7⟩ := h
    intro lv X B C k
    obtain ⟨v1, v2, v3⟩ := k.vis h2
    exact mut_ok (IH _ _ h5) k (by rw [k.N]; exact h1) v1 v2 v3 (by simpa using h4) h6 h7
  · intro lv X B C k
    obtain ⟨b1, b2, b3, b4, b5, b6, b7⟩ := lc_ok IH h k
    have := fun pos => pe_lc (pos := pos) k.calm k.nd b4 b1 b5 b6 b7 b3
    simp only [own_ix] at this
    exact PE.mono (this _) fun σ H Qk h => lc_imp b2 h
  · intro lv X B C k
    obtain ⟨b1, b2, b2', b0, b3, b4, b5, b6, b7, b8, b9, b10, b11⟩ := lc2_ok IH h k
    have := fun pos => pe_lc2 (pos := pos) k.calm k.nd b5 b1 b0 b6 b7 b8 b9 b10 b11 b3 b4
    simp only [own_ix] at this
    exact PE.mono (this _) fun σ H Qk h => lc2_imp b2 b2' h
  · cases h
/-! statements -/
omit IH in
theorem sw_name (k : XOk c lv X B C) {e : Expr} {y : Str} {py : Pos} (l : Nat) (hc : (match e with | .ListComp _ _ _ _ => true | x => notComp x) = true) : swapsWith e (some (.Name y py)) l X.env = pure (swB c e y py) := by
  have e1 : ∀ (elt : Expr) (gs : List Comprehension) (s : Scope) (p : Pos), swapsWith (.ListComp elt gs s p) (some (.Name y py)) l X.env = pure (swB c (.ListComp elt gs s p) y py) := by
    intro elt gs s p
    unfold swB look
    rw [← k.sc]
    rfl
  cases e with
  | ListComp elt gs s p => exact e1 elt gs s p
  | SetComp => cases hc
  | DictComp => cases hc
  | _ => rfl
omit IH in
theorem sw_none {e : Expr} (h : notComp e = true) (l : Nat) (env : PySem.Env) : swapsWith e none l env = pure false := by
  cases e <;> first
    | rfl
    | cases h
omit IH in
theorem sw_sole {e : Expr} {es : List Expr} {kt : Nat} {p : Pos} (h : notComp e = true) (l : Nat) (env : PySem.Env) : swapsWithSole [.Tuple es kt p] e l env = pure false := by
  cases e <;> first
    | rfl
    | cases h
omit IH in
theorem sw_tup {ts vs : List Expr} {kt k2 : Nat} {p p2 : Pos} {env : PySem.Env} {res : Option (List Str)} (h : swOf ts vs env.scope = some res) : swappedStores [.Tuple ts kt p] (.Tuple vs k2 p2) env = pure res := by
  have e : swappedStores [.Tuple ts kt p] (.Tuple vs k2 p2) env = (if sw1 ts vs env.scope = true then pure none else if vs.any isStar = true then pure none else if sw3 ts env.scope = true then pure none else if vs.all (foldedForSure 8) = true then pure none else
      if vs.all (constantsAlone 8) = true then ((unsupported "assign.tuple-of-constant-expressions:order-of-the-stores" : Sem PUnit) >>= fun _ => pure (some (swNm ts env.scope))) else pure (some (swNm ts env.scope))) := rfl
  rw [e]
  unfold swOf at h
  cases h1 : sw1 ts vs env.scope <;> rw [h1] at h
  · cases h2 : vs.any isStar <;> rw [h2] at h
    · cases h3 : sw3 ts env.scope <;> rw [h3] at h
      · cases h4 : vs.all (foldedForSure 8) <;> rw [h4] at h
        · cases h5 : vs.all (constantsAlone 8) <;> rw [h5] at h
          · cases h
            rfl
          · cases h
        · cases h
          rfl
      · cases h
        rfl
    · cases h
      rfl
  · cases h
    rfl
omit IH in
theorem sw_not {e : Expr} {es : List Expr} {kt : Nat} {p : Pos} (h : notTuple e = true) (env : PySem.Env) : swappedStores [.Tuple es kt p] e env = pure none := by
  cases e <;> first
    | rfl
    | cases h
omit IH in
theorem sub_asg {ek : Expr} (h : notSlice ek = true) (y : Str) (p p2 : Pos) (env : PySem.Env) (v : Value) : assign (.Subscript (.Name y p) ek p2) env v = (do
      let ov ← holding [v] (eval (.Name y p) env)
      let iv ← holding [v, ov] (eval ek env)
      standAt p2
      holding [v, ov, iv] (setItem ov iv v)
      release [v, ov, iv] []) := by
  cases ek <;> first
    | rfl
    | cases h
omit IH in
theorem sub_sole {e : Expr} (h : notComp e = true) (o ek : Expr) (p2 : Pos) (l : Nat) {env : PySem.Env} : swapsWithSole [.Subscript o ek p2] e l env = pure false := by
  cases e <;> first
    | rfl
    | cases h
omit IH in
theorem sub_sw (o ek e : Expr) (p2 : Pos) {env : PySem.Env} : swappedStores [.Subscript o ek p2] e env = pure none := rfl
omit IH in
theorem asg_tup (es : List Expr) (kt : Nat) (p : Pos) (env : PySem.Env) : (assignEach [.Tuple es kt p] env).map (·.2) = [assign (.Tuple es kt p) env] := rfl
theorem tie_s {m : S} {x : Stmt} (h : stepS r c m x = true) : OkJ c (.s m x) := by
  unfold stepS at h
  split at h
  · exact fun _ _ _ _ _ _ => s_sbad
  · simp only [Bool.and_eq_true] at h
    obtain ⟨h1, h2⟩ := h
    intro lv X B C k hp
    obtain ⟨t1, t2, t3⟩ := k.to h1
    split at h2
    · rename_i hsw
      simp only [Bool.and_eq_true, beq_iff_eq] at h2
      obtain ⟨hl, hm⟩ := h2
      unfold look at hl
      rw [← k.sc] at hl
      split at hm
      · obtain ⟨b1, b2, b3, b4, b5, b6, b7⟩ := lc_ok IH hm k
        have := fun spos => ps_setLc (spos := spos) k.calm k.nd t1 hl ((sw_name k _ rfl).trans (by rw [hsw])) b4 b1 b5 b6 b7 b3
        simp only [own_ix] at this
        exact PS.mono (this _) fun D σ H h => lc_imp b2 (asg_imp h)
      · obtain ⟨b1, b2, b2', b0, b3, b4, b5, b6, b7, b8, b9, b10, b11⟩ := lc2_ok IH hm k
        have := fun spos => ps_setLc2 (spos := spos) k.calm k.nd t1 hl ((sw_name k _ rfl).trans (by rw [hsw])) b5 b1 b0 b6 b7 b8 b9 b10 b11 b3 b4
        simp only [own_ix] at this
        exact PS.mono (this _) fun D σ H h => lc2_imp b2 b2' (asg_imp h)
      · cases hm
    · rename_i hsw
      simp only [Bool.and_eq_true] at h2
      refine s_asgv k.nd t1 t2 t3 ?_ (IH _ _ h2.2 lv X B C k)
      rw [sw_name k _ h2.1, hsw]
  · simp only [Bool.and_eq_true, Bool.or_eq_true] at h
    obtain ⟨⟨⟨h1, h2⟩, h3⟩, h4⟩ := h
    intro lv X B C k hp
    have hg := IH _ _ h1 lv X B C k
    refine (ps_asg (IH _ _ h2 lv X B C k) hg (sw_sole h3 _ _) ?_ rfl).mono fun D σ H h => by rw [← k.K]; exact tup_imp h
    rcases h4 with h4 | h4
    · exact sw_not h4 _
    · split at h4
      · split at h4
        · rename_i hw
          rw [← k.sc] at hw
          exact sw_tup hw
        · cases h4
      · cases h4
  · simp only [Bool.and_eq_true, beq_iff_eq, bne_iff_ne] at h
    obtain ⟨⟨⟨⟨⟨⟨h1, h2⟩, h3⟩, h4⟩, h5⟩, h6⟩, h7⟩ := h
    intro lv X B C k hp
    rw [← k.sc] at h6
    unfold look at h4 h5
    rw [← k.sc] at h4 h5
    exact s_par2 k.calm k.nd (k.to h1).1 (k.to h2).1 h3 h4 h5 ((IH _ _ h7).1 lv X B C k) (sw_tup h6) (sw_sole rfl _ _)
  · simp only [Bool.and_eq_true, beq_iff_eq, bne_iff_ne] at h
    obtain ⟨⟨⟨⟨⟨⟨⟨⟨⟨⟨h1, h2⟩, h2'⟩, h3⟩, h3'⟩, h3''⟩, h4⟩, h5⟩, h5'⟩, h6⟩, h7⟩ := h
    intro lv X B C k hp
    rw [← k.sc] at h6
    unfold look at h4 h5 h5'
    rw [← k.sc] at h4 h5 h5'
    exact s_par3 k.calm k.nd (k.to h1).1 (k.to h2).1 (k.to h2').1 h3 h3' h3'' h4 h5 h5' ((IH _ _ h7).1 lv X B C k) (sw_tup h6) (sw_sole rfl _ _)
  · simp only [Bool.and_eq_true] at h
    obtain ⟨⟨⟨⟨⟨h1, h2⟩, h3⟩, h4⟩, h5⟩, h6⟩ := h
    intro lv X B C k hp
    obtain ⟨v1, v2, v3⟩ := k.vis h2
    exact s_sub k.room (k.at h1) v1 v2 v3 (IH _ _ h6 lv X B C k) (IH _ _ h5 lv X B C k) (sub_asg h3 _ _ _ _) (sub_sole h4 _ _ _ _) (sub_sw _ _ _ _)
  · simp only [Bool.and_eq_true] at h
    intro lv X B C k hp
    obtain ⟨t1, t2, t3⟩ := k.to h.1
    exact s_aug k.K k.nd t1 t2 t3 (IH _ _ h.2 lv X B C k)
  · exact fun _ _ _ _ _ _ => s_doc
  · simp only [Bool.and_eq_true] at h
    exact fun lv X B C k hp => s_ex (sw_none h.1 _ _) (IH _ _ h.2 lv X B C k)
  · simp only [Bool.and_eq_true] at h
    exact fun lv X B C k hp => s_if (IH _ _ h.1.1 lv X B C k) (IH _ _ h.1.2 lv X B C k hp) (IH _ _ h.2 lv X B C k hp)
  · simp only [Bool.and_eq_true] at h
    exact fun lv X B C k hp => s_for hp k.calm (IH _ _ h.1.2 lv X B C _ k) (by rw [k.K]; exact IH _ _ h.1.1.2 lv X B C k) (IH _ _ h.2 lv X B C k hp) (fold_of h.1.1.1 _)
  · simp only [Bool.and_eq_true] at h
    exact fun lv X B C k hp => s_whl hp (IH _ _ h.1 lv X B C k) (IH _ _ h.2 lv X B C k hp)
  · exact fun lv X B C k hp => s_ret (IH _ _ h lv X B C k)
  · exact fun _ _ _ _ _ _ => s_retn
  · exact fun _ _ _ _ _ _ => s_brk
  · exact fun _ _ _ _ _ _ => s_cnt
  · exact fun _ _ _ _ _ _ => s_pass
  · cases h
theorem tie_ss {m : SL} {xs : List Stmt} (h : stepSS r c m xs = true) : OkJ c (.ss m xs) := by
  unfold stepSS at h
  split at h
  · exact fun _ _ _ _ _ _ => s_snil
  · simp only [Bool.and_eq_true] at h
    exact fun lv X B C k hp => s_scons (IH _ _ h.1 lv X B C k hp) (IH _ _ h.2 lv X B C k hp)
  · cases h
end
theorem tie_ok : ∀ (n : Nat) (c : TC) (j : Jb), tie n c j = true → OkJ c j
  | 0, _, _, h => by cases h
  | n + 1, c, j, h => by
    have IH := tie_ok n
    cases j with
    | e m x => exact tie_e IH h
    | l m x => exact tie_l IH h
    | k m x => exact tie_k IH h
    | t m x => exact tie_t IH h
    | ta m op x => exact tie_ta IH h
    | ea m op x => exact tie_ea IH h
    | o m x => exact tie_o IH h
    | i m x => exact tie_i IH h
    | g m x => exact tie_g IH h
    | gs m x => exact tie_gs IH h
    | c m x => exact tie_c IH h
    | s m x => exact tie_s IH h
    | ss m x => exact tie_ss IH h
end Q
end
section
set_option maxHeartbeats 2000000
namespace Q
open PySem PySem.Spec PyProof.Rows
open L2 hiding cutV
/-! ### the defs of a law -/
structure DefE where
  x : Str
  st : Stmt
  N : List Str
  ps : List Str
  pos : Bool
  fn : Fn
def tbl (ds : List DefE) : Tbl := fun x => (ds.find? fun d => d.x == x).map (·.fn)
def knows (ds : List DefE) : Str → Bool := fun x => ds.any fun d => d.x == x
def tcOf (ds : List DefE) (kbs : List KB) (d : DefE) : TC := ⟨d.N, defScope d.st, fun _ => true, tbl ds, knows ds, fun x => ds.any fun d => d.x == x && d.pos, kbs⟩
def scB (N ps : List Str) (sc : Scope) : Bool := (match sc.kind with | .function => true | _ => false) && !sc.isCoroutine && !sc.isGenerator && decide N.Nodup && decide (N.take ps.length = ps) && ps.all (fun x => sc.names.lookup x == some .local || sc.names.lookup x == some .cell) && sc.names.all fun y => y.2 != .free
theorem sc_of {N ps : List Str} {sc : Scope} (h : scB N ps sc = true) : FnScope N ps sc := by
  unfold scB at h
  simp only [Bool.and_eq_true, Bool.not_eq_true', decide_eq_true_eq, List.all_eq_true, Bool.or_eq_true, beq_iff_eq, bne_iff_ne] at h
  obtain ⟨⟨⟨⟨⟨⟨h1, h2⟩, h3⟩, h4⟩, h5⟩, h6⟩, h7⟩ := h
  refine ⟨?_, h2, h3, h4, h5, h6, h7⟩
  split at h1
  · assumption
  · cases h1
/-- what is decided of each def, once -/
def defB (ds : List DefE) (kbs : List KB) (d : DefE) : Bool := scB d.N d.ps (defScope d.st) && decide (d.N.length = d.fn.n) && decide (d.ps.length = d.fn.np) && decide (d.fn.np ≤ d.fn.n) && tie 1000 (tcOf ds kbs d) (.ss d.fn.body (defBody d.st))
/-- how the defs stand in the module -/
structure Stand (K : PySem.W.Frag) (mg : Str → Option Value) (ds : List DefE) (kbs : List KB) : Prop where
  fn : ∀ d ∈ ds, ∃ a fd, mg d.x = some (.ref a) ∧ Fun K d.x d.x d.st a fd ∧ (d.pos = true → Binds K fd d.ps []) ∧ ∀ b ∈ kbs, b.f = d.x → PBinds K fd d.ps b.n b.ks b.pm
  blt : ∀ x ∈ bltNames, mg x = none
section
variable {P : Program} {w : World} {K : PySem.W.Frag} {mg : Str → Option Value} {base : Heap} {ds : List DefE} {kbs : List KB}
theorem tbl_at {ds : List DefE} (nd : (ds.map (·.x)).Nodup) {d : DefE} (h : d ∈ ds) : tbl ds d.x = some d.fn := by
  unfold tbl
  induction ds with
  | nil => cases h
  | cons e r ih =>
    rw [List.map_cons, List.nodup_cons] at nd
    rw [List.find?_cons]
    rcases List.mem_cons.mp h with rfl | h
    · simp
    · have : (e.x == d.x) = false := by
        rw [beq_eq_false_iff_ne]
        intro z
        exact nd.1 (z ▸ List.mem_map_of_mem h)
      rw [this]
      exact ih nd.2 h
theorem nd_one {ds : List DefE} (nd : (ds.map (·.x)).Nodup) {d e : DefE} (hd : d ∈ ds) (he : e ∈ ds) (h : d.x = e.x) : d = e := by
  induction ds with
  | nil => cases hd
  | cons a r ih =>
    rw [List.map_cons, List.nodup_cons] at nd
    cases hd with
    | head =>
      cases he with
      | head => rfl
      | tail _ he => exact absurd (h ▸ List.mem_map_of_mem he) nd.1
    | tail _ hd =>
      cases he with
      | head => exact absurd (h ▸ List.mem_map_of_mem hd) nd.1
      | tail _ he => exact ih nd.2 hd he
theorem sp_len {T : Tbl} {n : Nat} {f : Str} {fn : Fn} (hT : T f = some fn) {vs : List V} {H : Hp} {Qk : VK} {E : XK} (h : spF K mg T n f vs H Qk E) : vs.length = fn.np := by
  obtain ⟨γ, as, g, S, h⟩ := h
  cases n with
  | zero => exact h.elim
  | succ n =>
    rw [callN, hT] at h
    dsimp only at h
    have := S.len
    split at h
    · rename_i hl
      simp at this
      omega
    · exact h.elim
theorem defs_ok (nd : (ds.map (·.x)).Nodup) (St : Stand K mg ds kbs) (hd : ∀ d ∈ ds, defB ds kbs d = true) : ∀ (n : Nat) (d : DefE), d ∈ ds → ∀ a fd, mg d.x = some (.ref a) → Fun K d.x d.x d.st a fd → FnG P w K mg base (L2.CX P w) n a fd d.ps (spF K mg (tbl ds) n d.x)
  | 0, d, _, a, fd, _, _ => ⟨fun vs H Qk E ⟨_, _, _, _, h⟩ => h.elim, fun _ _ _ _ _ _ _ _ _ _ _ _ _ _ ⟨_, _, _, _, h⟩ => h.elim⟩
  | n + 1, d, hm, a, fd, ha, F => by
    have hb := hd d hm
    unfold defB at hb
    simp only [Bool.and_eq_true, decide_eq_true_eq] at hb
    obtain ⟨⟨⟨⟨h1, h2⟩, h3⟩, h4⟩, h5⟩ := hb
    have S := sc_of h1
    have hT := tbl_at nd hm
    have hp := tie_ok _ _ _ h5
    refine fnG_of F S (fun vs H Qk E h => by rw [sp_len hT h, h3]) fun cdv A outer s H vs Qk E hG hr hsp => ?_
    refine ⟨tSs (Bs.of K mg E) ⟨callN (tbl ds) n, d.fn.np, d.fn.re, whileFuel⟩ d.fn.body, ?_, fn_body hT h2 h4 hsp⟩
    refine hp n _ _ _ { K := rfl, mg := rfl, N := rfl, nd := S.nd, sc := rfl, fn := rfl, calm := rfl, room := hr, gd := hG, tk := takes_of rfl rfl rfl rfl, call := rfl, fns := fun f hf => ?_, blt := St.blt } (passes_of rfl)
    unfold tcOf knows at hf
    obtain ⟨e, he, hx⟩ := List.any_eq_true.mp hf
    rw [beq_iff_eq] at hx
    subst hx
    obtain ⟨b, bd, g1, g2, g3, g4⟩ := St.fn e he
    refine ⟨b, bd, e.ps, g1, g2.kp, defs_ok nd St hd n e he b bd g1 g2, fun hq => g3 ?_, g4⟩
    obtain ⟨e', he', hx'⟩ := List.any_eq_true.mp (show (ds.any fun d => d.x == e.x && d.pos) = true from hq)
    simp only [Bool.and_eq_true, beq_iff_eq] at hx'
    rw [← nd_one nd he' he hx'.1]
    exact hx'.2
end
/-! ### the law's own call -/
theorem law_runs {P : Program} {w : World} {K : PySem.W.Frag} {mg mb : Str → Option Value} {C : CXT} {k : Nat} {fa a : Addr} {fd : FuncData} {x : Str} {sp : Sp} {s1 : Shared} {vs : List Value} {ns : List Int} (inK : K.In s1.heap) (hmg : s1.heap.Ns mainGlobals mg) (hmb : s1.heap.Ns builtinsNs mb) (hbt : ∀ x : Str, x ≠ "__name__" → mb x = bootBuiltins x)
    (noL : s1.heap.NoLimit) (noG : s1.gens = #[]) (hat : s1.heap.get? a = some { cls := .type "list", data := .seq vs.toArray }) (hint : IntsAre vs ns) (hlen : ns.length ≤ sizeLine) (hroom : Room k callerA) (F : ∀ base : Heap, K.In base → base.Ns mainGlobals mg → FnG P w K mg base C k fa fd [x] sp)
    (bd : BindsTo s1 fd ⟨[.ref a], []⟩ [(x, .ref a)]) (hsp : ∀ H : Hp, Only H → SqL K H a (ns.map V.int) → sp [.ref a] H (fun v _ => v = .bl true) fun _ _ _ => False) (noX : ∀ H e s', C [] H s1 (fun _ _ _ => False) e s' → False) :
    codeAny (model P w) callerA (.call (.ref fa) ⟨[.ref a], []⟩) (fun r s' => r = .ok (.ret (.bool true)) ∧ OldK s1.heap s'.heap ∧ s'.os = s1.os ∧ AllBare s'.gens) s1 := by
  have vi := vals_ints hint
  have inner : ∀ H : Hp, Only H → SqL K H a (ns.map V.int) → HOk P w H s1.heap → (∀ b, H b ≠ none → b = a) → (H a ≠ none → K.lookup a = none) → codeAny (model P w) callerA (.call (.ref fa) ⟨[.ref a], []⟩) (fun r s' => r = .ok (.ret (.bool true)) ∧ OldK s1.heap s'.heap ∧ s'.os = s1.os ∧ AllBare s'.gens) s1 := by
    intro H only sq hok one notK
    have at_a : ∀ {b : Addr}, H b ≠ none → b = a := fun {b} q => one b q
    have hid : ∀ {b : Addr} {o : Obj}, s1.heap.get? b = some o → H b = none → (hidT s1.heap H).get? b = some o := fun e q => hidT_get e q
    have free : ∀ {b : Addr} {o : Obj} {es : Array DictEntry} {ep : Nat}, s1.heap.get? b = some o → o.data = .dict es ep → H b = none := fun {b o es ep} e dd => Classical.byContradiction fun q => by
      have z := at_a q
      subst z
      rw [hat] at e
      cases e
      cases (show Data.seq vs.toArray _ = Data.dict es ep from dd)
    have ns_ : ∀ {b : Addr} {m : Str → Option Value}, s1.heap.Ns b m → (hidT s1.heap H).Ns b m := fun {b m} ⟨o, es, ep, e, dd, rest⟩ => ⟨o, es, ep, hid e (free e dd), dd, rest⟩
    have kin : K.In (hidT s1.heap H) := fun b o e => hid (inK b o e) (Classical.byContradiction fun q => by
      have z := at_a q
      subst z
      rw [notK q] at e
      cases e)
    have md : Mod K mg (hidT s1.heap H) := ⟨kin, ns_ hmg, ⟨mb, ns_ hmb, hbt⟩, by
      obtain ⟨mc, h1, h2⟩ := noL
      exact ⟨mc, ns_ h1, h2⟩⟩
    have en : Env0 P w K mg (hidT s1.heap H) callerA [] s1 H := ⟨rfl, md, fun b o e => of_hidT e, Nat.le_of_eq (hidT_size _ _), trivial, fun b hb => (by cases hb), hok, .of_eq noG⟩
    refine codeAny_mono ((F _ kin (ns_ hmg)).go callerA [] s1 H ⟨[.ref a], []⟩ [.ref a] [.ref a] _ _ rfl hroom en bd (.cons rfl .nil) (hsp H only sq)) fun r s' h => ?_
    rcases r with e | fl
    · exact (noX H e s' h).elim
    · cases fl <;> first
        | exact False.elim h
        | skip
      obtain ⟨v, H', e1, e2, un, hok', rv, q⟩ := h
      cases (show v = .bl true from q)
      cases (show _ = Value.bool true from rv)
      refine ⟨rfl, OldK.of_keep fun b o e => ?_, e1, e2⟩
      by_cases q : H b = none
      · exact un.keep b o e q (by intro z; cases z) (by simp)
      · rcases only b with z | ⟨ob, xs, z⟩
        · exact absurd z q
        · obtain ⟨f1, _⟩ := hok b _ z
          obtain ⟨f2, _⟩ := hok' b _ (un.frzs b ob _ z)
          rw [e] at f1
          cases f1
          exact f2
  by_cases hk : K.lookup a = none
  · let H : Hp := fun b => if b = a then some (.frz { cls := .type "list", data := .seq vs.toArray } (.lst (ns.map V.int))) else none
    have Ha : H a = some (.frz { cls := .type "list", data := .seq vs.toArray } (.lst (ns.map V.int))) := if_pos rfl
    have Hn : ∀ b, b ≠ a → H b = none := fun b q => if_neg q
    refine inner H (fun b => ?_) (.inl (.inr ⟨_, Ha⟩)) (fun b u z => ?_) (fun b q => Classical.byContradiction fun z => q (Hn b z)) fun _ => hk
    · by_cases q : b = a
      · subst q
        exact .inr ⟨_, _, Ha⟩
      · exact .inl (Hn b q)
    · by_cases q : b = a
      · subst q
        rw [Ha] at z
        cases z
        exact ⟨hat, by simpa using hlen, vs, _, vi, hat⟩
      · rw [Hn b q] at z
        cases z
  · obtain ⟨o, ho⟩ := Option.ne_none_iff_exists'.mp hk
    have e := inK a o ho
    rw [hat] at e
    cases e
    exact inner (fun _ => none) (fun _ => .inl rfl) (.inr ⟨_, vs.toArray, _, ho, rfl, rfl, rfl, by simpa [hint.length] using hlen, by simpa using vi⟩) (fun b u z => by cases z) (fun b z => absurd rfl z) fun z => absurd rfl z
/-- the promise of a law whose run in the small language is true at every script -/
theorem law_sp {K : PySem.W.Frag} {mg : Str → Option Value} {ds : List DefE} {n : Nat} {a : Addr} {ns : List Int} {H : Hp} (hO : Only H) (hS : SqL K H a (ns.map V.int)) (h : ∃ as' g', callN (tbl ds) n "law" [.v (.scr ns)] [] = .ret (.v (.bl true)) as' g') :
    spF K mg (tbl ds) n "law" [.ref a] H (fun v _ => v = .bl true) fun _ _ _ => False := by
  obtain ⟨as', g', h⟩ := h
  refine ⟨⟨[], []⟩, [.v (.scr ns)], [], ?_, ?_⟩
  · have mu0 : ∀ b, ¬ Mu ⟨[], []⟩ ([V.ref a].map some) (wor [.v (.scr ns)] []) b := fun b m => by
      rcases m with (m | m) | ⟨i, d, e, _⟩
      · cases m
      · cases m
      · rw [env_map] at e
        cases i with
        | zero => cases e
        | succ i => simp at e
    refine ⟨rfl, fun i s e => ?_, fun i j d d' b e1 e2 q1 q2 => ?_, fun b m => ?_, fun i d b e q => ?_, ⟨rfl, rfl⟩⟩
    · rw [env_map] at e
      cases i with
      | zero =>
        cases e
        refine ⟨.ref a, rfl, Rep.scr ?_⟩
        rcases hS with z | z
        · exact .inl ⟨z, mu0 a⟩
        · exact .inr z
      | succ i => simp at e
    · rw [env_map] at e1
      cases i with
      | zero => cases e1
      | succ i => simp at e1
    · rcases m with m | m <;> cases m
    · rw [env_map] at e
      cases i with
      | zero => cases e
      | succ i => simp at e
  · rw [h]
    intro v H' γ' T S R
    have R : Rep K H' _ γ' v (.bl true) := R
    cases R
    rfl
/-- a law by its run in the small language -/
theorem law_walk {l : PySem.W.OpenLaw} {n lv : Nat} {q : Program} {loose : List Str} {XP : (Str → Option Value) → Heap → Prop} {YP : World → Heap → Prop} {d : DefRec} {K : Params → PySem.W.Frag} {ds : List DefE} {kbs : List KB} {e : DefE} (hn : l.most = some n) (hn2 : n ≤ sizeLine) (hdf : d.params.defaults = []) (hr : Room lv callerA)
    (hY : ∀ (w : World) (h : Heap), YP w h → (K w.params).In h) (St : ∀ (w : World) (mg : Str → Option Value) (fa : Addr) (h : Heap), (K w.params).In h → h.Ns mainGlobals mg → mg d.name = some (.ref fa) → Stand (K w.params) mg ds kbs)
    (nd : (ds.map (·.x)).Nodup) (hd : ∀ d ∈ ds, defB ds kbs d = true) (he : e ∈ ds) (h1 : e.x = d.name) (h2 : e.x = "law") (h3 : e.ps = [("script" : Str)]) (h4 : e.pos = true) (hlaw : ∀ ns : List Int, ns.length ≤ n → ∃ as' g', callN (tbl ds) lv "law" [.v (.scr ns)] [] = .ret (.v (.bl true)) as' g') :
    PySem.W.WalkO q loose XP YP l.row.toRowW d [] (fun f vs => PySem.call f vs) := by
  refine Att.attach_call hn hdf fun w s0 s1 mg mb fa o pm cd doc a vs ns G Y ho hdd hcd hmg hobj hints hlen hg => ?_
  have kin := hY w _ Y
  have stand := St w mg fa _ kin G.T.g hmg
  obtain ⟨fa', fd, g1, g2, g3, _⟩ := stand.fn e he
  rw [h1, hmg] at g1
  cases g1
  refine law_runs (x := "script") (fd := fd) (C := L2.CX l.prog w) (sp := spF (K w.params) mg (tbl ds) lv "law") kin G.T.g G.T.b G.T.builtins G.T.nolimit hg hobj hints (Nat.le_trans hlen hn2) hr (fun base _ _ => ?_) ?_ (fun H hO hS => law_sp hO hS (hlaw ns hlen)) fun H e s' z => ?_
  · have F := defs_ok (P := l.prog) (w := w) (base := base) nd stand hd lv e he fa fd (by rw [h1]; exact hmg) g2
    rw [h3, h2] at F
    exact F
  · have b := g3 h4 s1 [.ref a] kin (by rw [h3]; rfl)
    rw [h3] at b
    exact b
  · exact z.elim fun _ ⟨_, _, _, _, _, _, _, _, _, _, _, z⟩ => z
/-! ### how the defs stand, one by one -/
def One (K : PySem.W.Frag) (mg : Str → Option Value) (kbs : List KB) (d : DefE) : Prop := ∃ a fd, mg d.x = some (.ref a) ∧ Fun K d.x d.x d.st a fd ∧ (d.pos = true → Binds K fd d.ps []) ∧ ∀ b ∈ kbs, b.f = d.x → PBinds K fd d.ps b.n b.ks b.pm
theorem one_mk {K : PySem.W.Frag} {h : Heap} {mg : Str → Option Value} {kbs : List KB} (d : DefE) {f : Addr} {oc kV doc pm cd ct : Value} {od an : Option Addr} {sl : Array (Option Value)} (X : K.In h) (G : h.Ns mainGlobals mg)
    (hp : d.pos = true → ∀ (kV doc pm : Value) (an : Option Addr) (cdv ct : Value) (us : List Value), us.length = d.ps.length → bindArgs (PySem.W.fnOf d.x d.x (defArgs d.st) (defBody d.st) (defScope d.st) .none kV doc pm an cdv ct) ⟨us, []⟩ = pure (d.ps.zip us))
    (hk : ∀ b ∈ kbs, b.f = d.x → ∀ (kV doc pm : Value) (an : Option Addr) (cdv ct : Value) (us ws : List Value), us.length = b.n → ws.length = b.ks.length → ∃ zs, bindArgs (PySem.W.fnOf d.x d.x (defArgs d.st) (defBody d.st) (defScope d.st) .none kV doc pm an cdv ct) ⟨us, b.ks.zip ws⟩ = pure (d.ps.zip zs) ∧ Picks (us ++ ws) b.pm zs)
    (a : PySem.W.nsIn K mainGlobals d.x = some (some (.ref f))) (l : K.lookup f = some ⟨oc, od, .func (PySem.W.fnOf d.x d.x (defArgs d.st) (defBody d.st) (defScope d.st) .none kV doc pm an cd ct), sl⟩) (c : PySem.W.codeIn K cd d.x = true) (k : PySem.W.keepIn K (.ref f) = true) : One K mg kbs d := by
  have F := fun_mk l c k
  refine ⟨f, _, PySem.W.mg_of X G a, F, fun q => F.binds (hp q), fun b hb hx => ⟨fun s us ws _ h1 h2 => ?_⟩⟩
  obtain ⟨zs, e1, e2⟩ := hk b hb hx kV doc pm an cd ct us ws h1 h2
  exact ⟨zs, .of_eq e1, e2⟩
theorem stand_mk {K : PySem.W.Frag} {h : Heap} {mg : Str → Option Value} {ds : List DefE} {kbs : List KB} (X : K.In h) (G : h.Ns mainGlobals mg) (ho : ∀ d ∈ ds, One K mg kbs d) (hb : ∀ x ∈ bltNames, PySem.W.nsIn K mainGlobals x = some none) : Stand K mg ds kbs :=
  ⟨ho, fun x hx => PySem.W.mg_none_of X G (hb x hx)⟩
end Q
end
section
set_option maxHeartbeats 4000000
namespace Q
open PySem
/-- nothing: it ties a run to its ends, so that simp leaves the ends alone -/
structure Dm {α β : Sort _} (q : α) (e : β) : Type
def Out.wq {α : Type} (o : Out α) (q : α → ST → Prop) (e : XV → ST → Prop) (_ : Dm q e := ⟨⟩) : Prop := o.wp q e
def COut.wq (o : COut) (q : SV → List SV → List GI → Prop) (e : XV → List SV → List GI → Prop) (_ : Dm q e := ⟨⟩) : Prop := o.wp q e
@[simp] theorem wq_ok {α : Type} (a : α) (st : ST) (q : α → ST → Prop) (e : XV → ST → Prop) : (Out.ok a st).wq q e ↔ q a st := Iff.rfl
@[simp] theorem wq_exc {α : Type} (x : XV) (st : ST) (q : α → ST → Prop) (e : XV → ST → Prop) : (Out.exc x st : Out α).wq q e ↔ e x st := Iff.rfl
@[simp] theorem wq_bad {α : Type} (q : α → ST → Prop) (e : XV → ST → Prop) : (Out.bad : Out α).wq q e ↔ False := Iff.rfl
theorem wq_bind {α β : Type} (o : Out α) (f : α → ST → Out β) (q : β → ST → Prop) (e : XV → ST → Prop) : (o.bind f).wq q e ↔ o.wq (fun a st => (f a st).wq q e) e := wp_bind o f q e
theorem wq_mono {α : Type} {o : Out α} {q q' : α → ST → Prop} {e e' : XV → ST → Prop} (h : o.wq q e) (hq : ∀ a st, q a st → q' a st) (he : ∀ x st, e x st → e' x st) : o.wq q' e' := wp_mono h hq he
/-! ### runs, by what they end in -/
@[simp] theorem cwp_ret (r : SV) (as : List SV) (g : List GI) (q : SV → List SV → List GI → Prop) (e : XV → List SV → List GI → Prop) : (COut.ret r as g).wq q e ↔ q r as g := Iff.rfl
@[simp] theorem cwp_exc (x : XV) (as : List SV) (g : List GI) (q : SV → List SV → List GI → Prop) (e : XV → List SV → List GI → Prop) : (COut.exc x as g).wq q e ↔ e x as g := Iff.rfl
@[simp] theorem cwp_bad (q : SV → List SV → List GI → Prop) (e : XV → List SV → List GI → Prop) : COut.bad.wq q e ↔ False := Iff.rfl
structure Post where
  nx : ST → Prop
  rt : ER → ST → Prop
  bk : ST → Prop
  ct : ST → Prop
  xc : XV → ST → Prop
def SO.wq (o : SO) (p : Post) (_ : Dm p p := ⟨⟩) : Prop := match o with
  | .nx st => p.nx st
  | .ret r st => p.rt r st
  | .bk st => p.bk st
  | .ct st => p.ct st
  | .exc x st => p.xc x st
  | .bad => False
@[simp] theorem sw_nx (st : ST) (p : Post) : (SO.nx st).wq p ↔ p.nx st := Iff.rfl
@[simp] theorem sw_ret (r : ER) (st : ST) (p : Post) : (SO.ret r st).wq p ↔ p.rt r st := Iff.rfl
@[simp] theorem sw_bk (st : ST) (p : Post) : (SO.bk st).wq p ↔ p.bk st := Iff.rfl
@[simp] theorem sw_ct (st : ST) (p : Post) : (SO.ct st).wq p ↔ p.ct st := Iff.rfl
@[simp] theorem sw_exc (x : XV) (st : ST) (p : Post) : (SO.exc x st).wq p ↔ p.xc x st := Iff.rfl
@[simp] theorem sw_bad (p : Post) : SO.bad.wq p ↔ False := Iff.rfl
@[simp] theorem sw_so {α : Type} (o : Out α) (f : α → ST → SO) (p : Post) : (o.so f).wq p ↔ o.wq (fun a st => (f a st).wq p) p.xc := by cases o <;> exact Iff.rfl
@[simp] theorem sw_seq (o : SO) (f : ST → SO) (p : Post) : (o.seq f).wq p ↔ o.wq { p with nx := fun st => (f st).wq p } := by cases o <;> exact Iff.rfl
@[simp] theorem sw_turn (o : SO) (f : ST → SO) (p : Post) : (o.turn f).wq p ↔ o.wq { p with nx := fun st => (f st).wq p, ct := fun st => (f st).wq p, bk := p.nx } := by cases o <;> exact Iff.rfl
@[simp] theorem sw_ite (c : Prop) [Decidable c] (a b : SO) (p : Post) : (if c then a else b).wq p ↔ if c then a.wq p else b.wq p := by split <;> exact Iff.rfl
@[simp] theorem ow_ite {α : Type} (c : Prop) [Decidable c] (a b : Out α) (q : α → ST → Prop) (e : XV → ST → Prop) : (if c then a else b).wq q e ↔ if c then a.wq q e else b.wq q e := by split <;> exact Iff.rfl
@[simp] theorem ow_bind {α β : Type} (o : Out α) (f : α → ST → Out β) (q : β → ST → Prop) (e : XV → ST → Prop) : (o.bind f).wq q e ↔ o.wq (fun a st => (f a st).wq q e) e := wq_bind o f q e
@[simp] theorem ow_no {α : Type} (o : Out α) (q : α → ST → Prop) (e : XV → ST → Prop) : (noExc o).wq q e ↔ o.wq q fun _ _ => False := noExc_wp o q e
@[simp] theorem ow_frz {α : Type} (o : Out ER) (f : PV → ST → Out α) (q : α → ST → Prop) (e : XV → ST → Prop) : (frzO o f).wq q e ↔ o.wq (fun r st => match r.frz st with | some (p, st') => (f p st').wq q e | none => False) e := by
  rw [frzO, wq_bind]
  refine iff_of_eq (congrArg (fun z => o.wq z e) (funext fun r => funext fun st => ?_))
  cases r.frz st <;> rfl
@[simp] theorem ow_lift {α : Type} (o : Option α) (st : ST) (q : α → ST → Prop) (e : XV → ST → Prop) : (lift o st).wq q e ↔ ∃ a, o = some a ∧ q a st := by
  cases o with
  | none => exact ⟨False.elim, fun ⟨_, h, _⟩ => by cases h⟩
  | some a => exact ⟨fun h => ⟨a, rfl, h⟩, fun ⟨_, h, q⟩ => by cases h; exact q⟩
@[simp] theorem ow_call (C : Ctx) (f : Str) (es : List ER) (st : ST) (q : ER → ST → Prop) (e : XV → ST → Prop) : (callO C f es st).wq q e ↔ ∃ as, svAll st es = some as ∧ (slotsOf es).Nodup ∧ (C.call f as st.g).wq (fun r as' g' => q r.er (back es as' { st with g := g' })) fun x as' g' => e x (back es as' { st with g := g' }) := by
  unfold callO
  cases svAll st es with
  | none => exact ⟨False.elim, fun ⟨_, h, _⟩ => by cases h⟩
  | some as =>
    by_cases nd : (slotsOf es).Nodup
    · dsimp only
      rw [if_pos nd]
      constructor
      · intro h
        refine ⟨as, rfl, nd, ?_⟩
        revert h
        cases C.call f as st.g <;> exact id
      · rintro ⟨_, h, _, k⟩
        cases h
        revert k
        cases C.call f as st.g <;> exact id
    · dsimp only
      rw [if_neg nd]
      exact ⟨False.elim, fun ⟨_, _, h, _⟩ => nd h⟩
theorem call_wp {T : Tbl} {n : Nat} {f : Str} {fn : Fn} {as bs : List SV} {g : List GI} {q : SV → List SV → List GI → Prop} {e : XV → List SV → List GI → Prop} (hT : T f = some fn) (hl : as.length = fn.np) (hf : frzArgs fn.re 0 as = some bs)
    (h : (exs ⟨callN T n, fn.np, fn.re, whileFuel⟩ fn.body ⟨bs.map some ++ List.replicate (fn.n - fn.np) none, g⟩).wq ⟨fun st => (retO fn bs (.v .non) st).wq q e, fun r st => (retO fn bs r st).wq q e, fun _ => False, fun _ => False, fun x st => (match finals fn.re st.env 0 bs with | some cs => COut.exc x cs st.g | none => .bad).wq q e⟩) :
    (callN T (n + 1) f as g).wq q e := by
  rw [callN, hT]
  dsimp only
  rw [if_pos hl, hf]
  dsimp only
  revert h
  cases exs ⟨callN T n, fn.np, fn.re, whileFuel⟩ fn.body ⟨bs.map some ++ List.replicate (fn.n - fn.np) none, g⟩ <;> exact id
/-! ### loops -/
theorem map_wp {F : PV → ST → Out (List PV)} {e : XV → ST → Prop} {xs : List PV} (P : Nat → List PV → ST → Prop) (step : ∀ i x acc st, xs[i]? = some x → P i acc st → (F x st).wq (fun a st' => P (i + 1) (acc ++ a) st') e) {st : ST} {q : List PV → ST → Prop}
    (h0 : P 0 [] st) (hq : ∀ r st', P xs.length r st' → q r st') : (mapO F xs st).wq q e := by
  have key : ∀ (ys : List PV) (i : Nat) (acc : List PV) (st : ST), xs.drop i = ys → i ≤ xs.length → P i acc st → (mapO F ys st).wq (fun r st' => P xs.length (acc ++ r) st') e := by
    intro ys
    induction ys with
    | nil =>
      intro i acc st hd hi hp
      have : i = xs.length := by
        have := congrArg List.length hd
        simp at this
        omega
      subst this
      rw [mapO, wq_ok, List.append_nil]
      exact hp
    | cons y ys ih =>
      intro i acc st hd hi hp
      have hx : xs[i]? = some y := by
        rw [← List.head?_drop, hd]
        rfl
      have hlt := (List.getElem?_eq_some_iff.mp hx).1
      rw [mapO, wq_bind]
      refine wq_mono (step i y acc st hx hp) (fun a st' h => ?_) fun _ _ h => h
      rw [wq_bind]
      have hd' : xs.drop (i + 1) = ys := by
        rw [← List.drop_drop, hd]
        rfl
      refine wq_mono (ih (i + 1) (acc ++ a) st' hd' hlt h) (fun b st'' h => ?_) fun _ _ h => h
      rw [List.append_assoc] at h
      exact h
  refine wq_mono (key xs 0 [] st rfl (Nat.zero_le _) h0) (fun r st' h => hq r st' ?_) fun _ _ h => h
  simpa using h
theorem for_wp {F : PV → ST → SO} {p : Post} {xs : List PV} (P : Nat → ST → Prop) (step : ∀ i x st, xs[i]? = some x → P i st → (F x st).wq { p with nx := P (i + 1), ct := P (i + 1), bk := p.nx }) {st : ST} (h0 : P 0 st) (hq : ∀ st', P xs.length st' → p.nx st') : (forO F xs st).wq p := by
  have key : ∀ (ys : List PV) (i : Nat) (st : ST), xs.drop i = ys → i ≤ xs.length → P i st → (forO F ys st).wq p := by
    intro ys
    induction ys with
    | nil =>
      intro i st hd hi hp
      have : i = xs.length := by
        have := congrArg List.length hd
        simp at this
        omega
      subst this
      exact hq st hp
    | cons y ys ih =>
      intro i st hd hi hp
      have hx : xs[i]? = some y := by
        rw [← List.head?_drop, hd]
        rfl
      have hlt := (List.getElem?_eq_some_iff.mp hx).1
      have hd' : xs.drop (i + 1) = ys := by
        rw [← List.drop_drop, hd]
        rfl
      have s := step i y st hx hp
      rw [forO, sw_turn]
      revert s
      cases F y st with
      | nx st' => exact fun s => ih (i + 1) st' hd' hlt s
      | ct st' => exact fun s => ih (i + 1) st' hd' hlt s
      | bk st' => exact id
      | ret r st' => exact id
      | exc x st' => exact id
      | bad => exact id
  exact key xs 0 st rfl (Nat.zero_le _) h0
theorem lcF_ok {tg : Tg} {ws : List Nat} {t : ST → Out Bool} {k : ST → Out (List PV)} {x : PV} {st st' : ST} {q : List PV → ST → Prop} {e : XV → ST → Prop} (hp : putTo tg x (wipeS st ws) = some st') (h : (t st').wq (fun b st => if b = true then (k st).wq (fun ps st => q ps (wipeS st ws)) e else q [] (wipeS st ws)) e) :
    (lcF tg ws t k x st).wq q e := by
  unfold lcF
  rw [hp]
  dsimp only
  rw [wq_bind]
  refine wq_mono h (fun b st h => ?_) fun _ _ h => h
  cases b with
  | true =>
    rw [if_pos rfl] at h
    rw [if_pos rfl, wq_bind]
    exact h
  | false => exact h
/-! ### sums of bits -/
theorem log_lt {i : Int} {k : Nat} (h : i.natAbs < 2 ^ k) (hk : 0 < k) : i.natAbs.log2 < k := by
  by_cases h0 : i.natAbs = 0
  · rw [h0]
    simpa using hk
  · exact (Nat.log2_lt h0).mpr h
theorem mul_ok {i j : Int} {k l : Nat} (h1 : i.natAbs < 2 ^ k) (h2 : j.natAbs < 2 ^ l) (h3 : 0 < k) (h4 : 0 < l) (h5 : k + l < 1000000) : mulOk i j = true := by
  unfold mulOk
  have a := log_lt h1 h3
  have b := log_lt h2 h4
  rw [decide_eq_true_eq]
  omega
theorem bd_mul {i j : Int} {k l : Nat} (h1 : i.natAbs < 2 ^ k) (h2 : j.natAbs < 2 ^ l) : (i * j).natAbs < 2 ^ (k + l) := by
  rw [Int.natAbs_mul, Nat.pow_add]
  exact Nat.mul_lt_mul'' h1 h2
theorem bd_add {i j : Int} {k : Nat} (h1 : i.natAbs < 2 ^ k) (h2 : j.natAbs < 2 ^ k) : (i + j).natAbs < 2 ^ (k + 1) := by
  have := Int.natAbs_add_le i j
  rw [Nat.pow_succ]
  omega
theorem bd_up {i : Int} {k l : Nat} (h : i.natAbs < 2 ^ k) (hl : k ≤ l) : i.natAbs < 2 ^ l := Nat.lt_of_lt_of_le h (Nat.pow_le_pow_right (by decide) hl)
/-- behind the first k statements -/
def SL.drop : Nat → SL → SL
  | 0, l => l
  | _ + 1, .nil => .nil
  | n + 1, .cons _ r => SL.drop n r
end Q
end
section
set_option maxHeartbeats 4000000
namespace Q
open PySem
/-! ### small data -/
def atom : PV → Bool
  | .non => true
  | .bl _ => true
  | .int i => decide (i.natAbs < 10 ^ 12)
  | _ => false
theorem atom_lay {p : PV} (h : atom p = true) : p.toD.canLay0 = true ∧ p.toD.depth = 0 ∧ p.toD.weight ≤ 41 ∧ p.toD.intsShort 13 = true ∧ p.toD.showable = true := by
  cases p <;> first
    | (cases h; done)
    | skip
  · exact ⟨rfl, rfl, by decide, rfl, rfl⟩
  · exact ⟨rfl, rfl, by simp [PV.toD, PyData.weight], rfl, rfl⟩
  · rename_i i
    have h : i.natAbs < 10 ^ 12 := by simpa [atom] using h
    have hl : i.natAbs.log2 < 40 := log_lt (k := 40) (by omega) (by decide)
    refine ⟨rfl, rfl, ?_, ?_, ?_⟩
    · simp only [PV.toD, PyData.weight]
      split <;> omega
    · simp only [PV.toD, PyData.intsShort, decide_eq_true_eq]
      exact PyData.shown_int_le h
    · simp only [PV.toD, PyData.showable, decide_eq_true_eq]
      omega
theorem atoms_lay : ∀ {xs : List PV}, xs.all atom = true → PyData.canLayAll0 (PV.toDs xs) = true ∧ PyData.depthAll (PV.toDs xs) ≤ 1 ∧ PyData.weightAll (PV.toDs xs) ≤ 42 * xs.length ∧ PyData.intsShortAll 13 (PV.toDs xs) = true ∧ PyData.showableAll (PV.toDs xs) = true
  | [], _ => ⟨rfl, by simp [PV.toDs, PyData.depthAll], by simp [PV.toDs, PyData.weightAll], rfl, rfl⟩
  | x :: xs, h => by
    simp only [List.all_cons, Bool.and_eq_true] at h
    obtain ⟨a1, a2, a3, a4, a5⟩ := atom_lay h.1
    obtain ⟨b1, b2, b3, b4, b5⟩ := atoms_lay h.2
    refine ⟨by simp [PV.toDs, PyData.canLayAll0, a1, b1], ?_, ?_, by simp [PV.toDs, PyData.intsShortAll, a4, b4], by simp [PV.toDs, PyData.showableAll, a5, b5]⟩
    · simp only [PV.toDs, PyData.depthAll, a2]
      omega
    · simp only [PV.toDs, PyData.weightAll, List.length_cons]
      omega
theorem atom_fit {p : PV} (h : atom p = true) : p.fit = true := by
  obtain ⟨a1, a2, _⟩ := atom_lay h
  unfold PV.fit SeqAt.shaped
  rw [a1, a2]
  rfl
theorem flat_fit {xs : List PV} (h : xs.all atom = true) : (PV.tup xs).fit = true ∧ (PV.lst xs).fit = true := by
  obtain ⟨a1, a2, _⟩ := atoms_lay h
  constructor <;>
    (unfold PV.fit SeqAt.shaped
     simp only [PV.toD, PyData.canLay0, PyData.depth, a1, Bool.true_and, decide_eq_true_eq]
     omega)
theorem flat_repr {xs : List PV} (h : xs.all atom = true) (hl : xs.length ≤ 1000) : (PV.tup xs).toD.showable = true ∧ (PV.tup xs).toD.shown.length ≤ line ∧ (PV.lst xs).toD.showable = true ∧ (PV.lst xs).toD.shown.length ≤ line := by
  obtain ⟨a1, a2, a3, a4, a5⟩ := atoms_lay h
  have lt : PyData.layable0 (PV.tup xs).toD = true := by
    unfold PyData.layable0
    simp only [PV.toD, PyData.canLay0, PyData.depth, PyData.weight, a1, Bool.true_and, Bool.and_eq_true, decide_eq_true_eq]
    omega
  have ll : PyData.layable0 (PV.lst xs).toD = true := by
    unfold PyData.layable0
    simp only [PV.toD, PyData.canLay0, PyData.depth, PyData.weight, a1, Bool.true_and, Bool.and_eq_true, decide_eq_true_eq]
    omega
  have z := sizeL
  refine ⟨by simp only [PV.toD, PyData.showable]; exact a5, ?_, by simp only [PV.toD, PyData.showable]; exact a5, ?_⟩
  · rw [← z]
    exact PyData.shown_fits_of_layable0 (B := 13) (by decide) (by decide) lt (by simp only [PV.toD, PyData.intsShort]; exact a4)
  · rw [← z]
    exact PyData.shown_fits_of_layable0 (B := 13) (by decide) (by decide) ll (by simp only [PV.toD, PyData.intsShort]; exact a4)
/-- repr of a flat tuple -/
theorem repr_tup {xs : List PV} (h : xs.all atom = true) (hl : xs.length ≤ 1000) : bltO .repr [.v (.tup xs)] = some (.v (.str (PV.tup xs).toD.shown)) := by
  obtain ⟨r1, r2, _⟩ := flat_repr h hl
  simp only [bltO, DV.pv, (flat_fit h).1, r1, Bool.true_and, decide_eq_true r2, if_true]
theorem repr_bl (b : Bool) : bltO .repr [.v (.bl b)] = some (.v (.str (PyData.bool b).shown)) := by
  have h : (PyData.bool b).shown.length ≤ line := by cases b <;> decide +kernel
  simp only [bltO, DV.pv, atom_fit (p := .bl b) rfl, PV.toD, PyData.showable, Bool.true_and]
  exact if_pos (decide_eq_true h)
theorem shown_bl (a b : Bool) : ((PyData.bool a).shown == (PyData.bool b).shown) = (a == b) := by
  cases a <;> cases b <;> decide +kernel
theorem eq_str (a b : Str) : cmpO .Eq (.v (.str a)) (.v (.str b)) = some (a == b) := rfl
theorem ne_str (a b : Str) : cmpO .NotEq (.v (.str a)) (.v (.str b)) = some (!(a == b)) := rfl
theorem eqv_int (a b : Int) : PV.eqv (.int a) (.int b) = (a == b) := by
  simp [PV.eqv, PV.toD, PyData.eqv]
theorem eqv_str (a b : Str) : PV.eqv (.str a) (.str b) = (a == b) := by
  simp [PV.eqv, PV.toD, PyData.eqv]
theorem eq_int {a b : Int} (ha : a.natAbs < 10 ^ 12) (hb : b.natAbs < 10 ^ 12) : cmpO .Eq (.v (.int a)) (.v (.int b)) = some (a == b) := by
  have h1 := atom_fit (p := .int a) (by simpa [atom] using ha)
  have h2 := atom_fit (p := .int b) (by simpa [atom] using hb)
  simp [cmpO, eqO, DV.pv, h1, h2, eqv_int]
theorem ne_int {a b : Int} (ha : a.natAbs < 10 ^ 12) (hb : b.natAbs < 10 ^ 12) : cmpO .NotEq (.v (.int a)) (.v (.int b)) = some (!(a == b)) := by
  have h1 := atom_fit (p := .int a) (by simpa [atom] using ha)
  have h2 := atom_fit (p := .int b) (by simpa [atom] using hb)
  simp [cmpO, eqO, DV.pv, h1, h2, eqv_int]
end Q
end
section
namespace Q.K06
open PySem L2 Q
def top (i : Nat) : Stmt := PySem.Challenge.pw_eitherfields_k06_agreeing_and_mixing.main.body.getD i (.Pass ⟨0, 0, 0, 0⟩)
def f_is_between : Fn := ⟨3, 3, [], .cons (.ret (.and (.isi (.var 0) .int) (.and (.not (.isi (.var 0) .bool)) (.chain .LtE .Lt (.var 1) (.var 0) (.var 2))))) .nil⟩
def f_is_sheet : Fn := ⟨2, 1, [], .cons (.ife (.or (.not (.e (.isi (.var 0) .tuple))) (.not (.e (.chain .LtE .LtE (.c (.int 1)) (.blt .len (.cons (.var 0) .nil)) (.c (.int 8)))))) (.cons (.ret (.c (.bl false))) .nil) .nil) (.cons (.ret (.blt .all (.cons (.lc [1] (.v 1) (.seq (.var 0)) .tt (.call "is_between" (.cons (.var 1) (.cons (.c (.int 1)) (.cons (.c (.int 6)) .nil))))) .nil))) .nil)⟩
def f_is_part_of : Fn := ⟨3, 2, [], .cons (.ife (.or (.not (.e (.isi (.var 1) .tuple))) (.e (.cmp .NotEq (.blt .len (.cons (.var 1) .nil)) (.blt .len (.cons (.var 0) .nil))))) (.cons (.ret (.c (.bl false))) .nil) .nil) (.cons (.ret (.blt .all (.cons (.lc [2] (.v 2) (.rng1 (.blt .len (.cons (.var 0) .nil))) .tt (.or (.cmp .Is (.idx (.var 1) (.var 2)) (.c .non)) (.call "is_between" (.cons (.idx (.var 1) (.var 2)) (.cons (.c (.int 0)) (.cons (.idx (.var 0) (.var 2)) .nil)))))) .nil))) .nil)⟩
def f_is_filling_of : Fn := ⟨3, 2, [], .cons (.ret (.and (.call "is_part_of" (.cons (.var 0) (.cons (.var 1) .nil))) (.blt .all (.cons (.lc [2] (.v 2) (.seq (.var 1)) .tt (.cmp .IsNot (.var 2) (.c .non))) .nil)))) .nil⟩
def f_need_sheet : Fn := ⟨1, 1, [], .cons (.ife (.not (.e (.call "is_sheet" (.cons (.var 0) .nil)))) (.cons .bad .nil) .nil) .nil⟩
def f_need_part : Fn := ⟨2, 2, [], .cons (.ife (.not (.e (.call "is_part_of" (.cons (.var 0) (.cons (.var 1) .nil))))) (.cons .bad .nil) .nil) .nil⟩
def f_need_filling : Fn := ⟨2, 2, [], .cons (.ife (.not (.e (.call "is_filling_of" (.cons (.var 0) (.cons (.var 1) .nil))))) (.cons .bad .nil) .nil) .nil⟩
def f_agrees : Fn := ⟨4, 3, [], .cons (.ex (.call "need_sheet" (.cons (.var 0) .nil))) (.cons (.ex (.call "need_filling" (.cons (.var 0) (.cons (.var 1) .nil)))) (.cons (.ex (.call "need_part" (.cons (.var 0) (.cons (.var 2) .nil)))) (.cons (.ret (.blt .all (.cons (.lc [3] (.v 3) (.rng1 (.blt .len (.cons (.var 2) .nil))) .tt (.or (.cmp .Is (.idx (.var 2) (.var 3)) (.c .non)) (.cmp .Eq (.idx (.var 2) (.var 3)) (.idx (.var 1) (.var 3))))) .nil))) .nil)))⟩
def f_mixed : Fn := ⟨5, 4, [], .cons (.ex (.call "need_sheet" (.cons (.var 0) .nil))) (.cons (.ex (.call "need_filling" (.cons (.var 0) (.cons (.var 1) .nil)))) (.cons (.ex (.call "need_filling" (.cons (.var 0) (.cons (.var 2) .nil)))) (.cons (.ex (.call "need_filling" (.cons (.var 0) (.cons (.var 3) .nil)))) (.cons (.ret (.blt .tuple (.cons (.lc [4] (.v 4) (.rng1 (.blt .len (.cons (.var 0) .nil))) .tt (.ifx (.e (.cmp .Eq (.idx (.var 1) (.var 4)) (.idx (.var 2) (.var 4)))) (.idx (.var 1) (.var 4)) (.idx (.var 3) (.var 4)))) .nil))) .nil))))⟩
def f_law_pouch : Fn := ⟨2, 1, [], .cons (.asg (.v 1) (.c (.int 0))) (.cons (.ife (.e (.cmp .Gt (.var 0) (.bin .Pow (.c (.int 10)) (.c (.int 18))))) (.cons (.asg (.v 1) (.bin .Sub (.var 0) (.bin .Pow (.c (.int 10)) (.c (.int 18))))) .nil) .nil) (.cons (.ret (.lst (.cons (.var 1) (.cons (.bin .Mod (.blt .int (.cons (.var 0) .nil)) (.c (.int 999999999999999989))) (.cons (.c (.int 0)) .nil))))) .nil))⟩
def f_law_take : Fn := ⟨6, 2, [], .cons (.ife (.e (.cmp .Gt (.idx (.var 0) (.c (.int 0))) (.c (.int 0)))) (.cons (.asg (.v 2) (.bin .Mod (.blt .int (.cons (.idx (.var 0) (.c (.int 0))) .nil)) (.var 1))) (.cons (.sub 0 (.c (.int 0)) (.bin .FloorDiv (.idx (.var 0) (.c (.int 0))) (.var 1))) (.cons (.ret (.var 2)) .nil))) .nil) (.cons (.sub 0 (.c (.int 2)) (.bin .Add (.idx (.var 0) (.c (.int 2))) (.c (.int 1)))) (.cons (.par [3, 4] (.cons (.idx (.var 0) (.c (.int 1))) (.cons (.idx (.var 0) (.c (.int 2))) .nil))) (.cons (.asg (.v 5) (.bin .Mod (.blt .int (.cons (.bin .Mult (.bin .Add (.var 3) (.bin .Mult (.c (.int 5)) (.var 4))) (.bin .Add (.bin .Add (.var 3) (.bin .Mult (.bin .Mult (.c (.int 10007)) (.var 4)) (.var 4))) (.c (.int 71)))) .nil)) (.c (.int 9999999999999937)))) (.cons (.asg (.v 5) (.bin .Mod (.blt .int (.cons (.bin .Add (.bin .Add (.bin .Mult (.bin .Mult (.var 5) (.var 5)) (.var 5)) (.bin .Mult (.c (.int 40961)) (.var 5))) (.bin .Mult (.c (.int 977)) (.var 4))) .nil)) (.c (.int 999999999989)))) (.cons (.ret (.bin .Mod (.bin .FloorDiv (.var 5) (.c (.int 4096))) (.var 1))) .nil)))))⟩
def f_law_draw_sizes : Fn := ⟨6, 3, [], .cons (.asg (.v 3) (.call "_law_take" (.cons (.var 0) (.cons (.c (.int 4)) .nil)))) (.cons (.ife (.e (.cmp .Eq (.var 3) (.c (.int 0)))) (.cons (.ret (.bin .Mult (.tup (.cons (.var 2) .nil)) (.var 1))) .nil) .nil) (.cons (.asg (.v 4) (.ifx (.e (.cmp .Eq (.var 3) (.c (.int 1)))) (.var 1) (.bin .Add (.c (.int 1)) (.call "_law_take" (.cons (.var 0) (.cons (.var 1) .nil)))))) (.cons (.ife (.e (.cmp .Eq (.var 3) (.c (.int 2)))) (.cons (.ret (.bin .Mult (.tup (.cons (.bin .Add (.c (.int 1)) (.call "_law_take" (.cons (.var 0) (.cons (.var 2) .nil)))) .nil)) (.var 4))) .nil) .nil) (.cons (.ret (.blt .tuple (.cons (.lc [5] (.v 5) (.rng1 (.var 4)) .tt (.bin .Add (.c (.int 1)) (.call "_law_take" (.cons (.var 0) (.cons (.var 2) .nil))))) .nil))) .nil))))⟩
def f_law_draw_row : Fn := ⟨3, 2, [], .cons (.ret (.blt .tuple (.cons (.lc [2] (.v 2) (.seq (.var 1)) .tt (.call "_law_take" (.cons (.var 0) (.cons (.var 2) .nil)))) .nil))) .nil⟩
def f_law_draw_partial : Fn := ⟨5, 2, [], .cons (.asg (.v 2) (.call "_law_take" (.cons (.var 0) (.cons (.c (.int 4)) .nil)))) (.cons (.asg (.v 3) (.lst .nil)) (.cons (.for_ (.v 4) (.seq (.var 1)) (.cons (.ife (.or (.e (.cmp .Eq (.var 2) (.c (.int 0)))) (.e (.cmp .Lt (.call "_law_take" (.cons (.var 0) (.cons (.c (.int 4)) .nil))) (.bin .Sub (.var 2) (.c (.int 1)))))) (.cons (.ex (.mut .append 3 (.cons (.c .non) .nil))) .nil) (.cons (.ex (.mut .append 3 (.cons (.call "_law_take" (.cons (.var 0) (.cons (.var 4) .nil))) .nil))) .nil)) .nil)) (.cons (.ret (.blt .tuple (.cons (.var 3) .nil))) .nil)))⟩
def f_law_near : Fn := ⟨6, 3, [], .cons (.asg (.v 3) (.bin .Add (.c (.int 1)) (.call "_law_take" (.cons (.var 0) (.cons (.c (.int 3)) .nil))))) (.cons (.asg (.v 4) (.lst .nil)) (.cons (.for_ (.v 5) (.rng1 (.blt .len (.cons (.var 1) .nil))) (.cons (.ife (.e (.cmp .Lt (.call "_law_take" (.cons (.var 0) (.cons (.c (.int 4)) .nil))) (.var 3))) (.cons (.ex (.mut .append 4 (.cons (.call "_law_take" (.cons (.var 0) (.cons (.idx (.var 1) (.var 5)) .nil))) .nil))) .nil) (.cons (.ex (.mut .append 4 (.cons (.idx (.var 2) (.var 5)) .nil))) .nil)) .nil)) (.cons (.ret (.blt .tuple (.cons (.var 4) .nil))) .nil)))⟩
def f_law : Fn := ⟨18, 1, [], .cons (.for_ (.v 1) (.seq (.bin .Add (.lst (.cons (.bin .Add (.bin .Mult (.c (.int 9)) (.bin .Pow (.c (.int 10)) (.c (.int 61)))) (.c (.int 577215))) .nil)) (.sl (.var 0) .no (.yes (.c (.int 20)))))) (.cons (.asg (.v 2) (.call "_law_pouch" (.cons (.var 1) .nil))) (.cons (.asg (.v 3) (.call "_law_draw_sizes" (.cons (.var 2) (.cons (.c (.int 8)) (.cons (.c (.int 5)) .nil))))) (.cons (.asg (.v 4) (.call "_law_draw_row" (.cons (.var 2) (.cons (.var 3) .nil)))) (.cons (.par [5, 6] (.cons (.call "_law_near" (.cons (.var 2) (.cons (.var 3) (.cons (.var 4) .nil)))) (.cons (.call "_law_near" (.cons (.var 2) (.cons (.var 3) (.cons (.var 4) .nil)))) .nil))) (.cons (.asg (.v 7) (.call "_law_draw_partial" (.cons (.var 2) (.cons (.var 3) .nil)))) (.cons (.asg (.v 8) (.blt .tuple (.cons (.lc [9] (.v 9) (.rng1 (.blt .len (.cons (.var 3) .nil))) .tt (.ifx (.e (.cmp .Is (.idx (.var 7) (.var 9)) (.c .non))) (.c .non) (.idx (.var 4) (.var 9)))) .nil))) (.cons (.asg (.v 10) (.call "_law_take" (.cons (.var 2) (.cons (.blt .len (.cons (.var 3) .nil)) .nil)))) (.cons (.asg (.v 11) (.bin .Add (.bin .Add (.sl (.var 8) .no (.yes (.var 10))) (.tup (.cons (.call "_law_take" (.cons (.var 2) (.cons (.idx (.var 3) (.var 10)) .nil))) .nil))) (.sl (.var 8) (.yes (.bin .Add (.var 10) (.c (.int 1)))) .no))) (.cons (.for_ (.v 12) (.seq (.lst (.cons (.var 8) (.cons (.var 11) (.cons (.var 7) .nil))))) (.cons (.for_ (.v 13) (.seq (.lst (.cons (.var 4) (.cons (.var 5) .nil)))) (.cons (.asg (.v 14) (.cmp .Eq (.lc [9] (.v 9) (.rng1 (.blt .len (.cons (.var 3) .nil))) (.and (.e (.cmp .IsNot (.idx (.var 12) (.var 9)) (.c .non))) (.e (.cmp .NotEq (.idx (.var 12) (.var 9)) (.idx (.var 13) (.var 9))))) (.var 9)) (.lst .nil))) (.cons (.ife (.e (.cmp .NotEq (.blt .repr (.cons (.call "agrees" (.cons (.var 3) (.cons (.var 13) (.cons (.var 12) .nil)))) .nil)) (.blt .repr (.cons (.var 14) .nil)))) (.cons (.ret (.c (.bl false))) .nil) .nil) (.cons (.ife (.e (.cmp .NotEq (.blt .repr (.cons (.callp "agrees" [.a 1, .a 2, .a 0] .nil (.cons (.var 12) (.cons (.var 3) (.cons (.var 13) .nil)))) .nil)) (.blt .repr (.cons (.var 14) .nil)))) (.cons (.ret (.c (.bl false))) .nil) .nil) .nil)))) .nil)) (.cons (.for_ (.t [15, 16, 17]) (.seq (.lst (.cons (.tup (.cons (.var 4) (.cons (.var 5) (.cons (.var 6) .nil)))) (.cons (.tup (.cons (.var 5) (.cons (.var 6) (.cons (.var 4) .nil)))) (.cons (.tup (.cons (.var 6) (.cons (.var 4) (.cons (.var 5) .nil)))) (.cons (.tup (.cons (.var 4) (.cons (.var 4) (.cons (.var 5) .nil)))) (.cons (.tup (.cons (.var 4) (.cons (.var 5) (.cons (.var 4) .nil)))) (.cons (.tup (.cons (.var 5) (.cons (.var 4) (.cons (.var 4) .nil)))) .nil)))))))) (.cons (.asg (.v 14) (.lst .nil)) (.cons (.for_ (.v 9) (.rng1 (.blt .len (.cons (.var 3) .nil))) (.cons (.ex (.mut .append 14 (.cons (.ifx (.e (.cmp .Eq (.idx (.var 15) (.var 9)) (.idx (.var 16) (.var 9)))) (.idx (.var 15) (.var 9)) (.idx (.var 17) (.var 9))) .nil))) .nil)) (.cons (.ife (.e (.cmp .NotEq (.blt .repr (.cons (.callp "mixed" [.a 0, .a 1, .a 2, .a 3] (.cons (.var 3) .nil) (.cons (.var 15) (.cons (.var 16) (.cons (.var 17) .nil)))) .nil)) (.blt .repr (.cons (.blt .tuple (.cons (.var 14) .nil)) .nil)))) (.cons (.ret (.c (.bl false))) .nil) .nil) (.cons (.ife (.e (.cmp .NotEq (.blt .repr (.cons (.callp "mixed" [.a 2, .a 1, .a 3, .a 0] .nil (.cons (.var 17) (.cons (.var 15) (.cons (.var 3) (.cons (.var 16) .nil))))) .nil)) (.blt .repr (.cons (.blt .tuple (.cons (.var 14) .nil)) .nil)))) (.cons (.ret (.c (.bl false))) .nil) .nil) .nil))))) .nil))))))))))) (.cons (.ret (.c (.bl true))) .nil)⟩
def d_is_between : DefE := ⟨"is_between", top 6, ["value", "low", "end"], ["value", "low", "end"], true, f_is_between⟩
def d_is_sheet : DefE := ⟨"is_sheet", top 7, ["value", "size"], ["value"], true, f_is_sheet⟩
def d_is_part_of : DefE := ⟨"is_part_of", top 8, ["sheet", "value", "k"], ["sheet", "value"], true, f_is_part_of⟩
def d_is_filling_of : DefE := ⟨"is_filling_of", top 9, ["sheet", "value", "entry"], ["sheet", "value"], true, f_is_filling_of⟩
def d_need_sheet : DefE := ⟨"need_sheet", top 10, ["sheet"], ["sheet"], true, f_need_sheet⟩
def d_need_part : DefE := ⟨"need_part", top 11, ["sheet", "part"], ["sheet", "part"], true, f_need_part⟩
def d_need_filling : DefE := ⟨"need_filling", top 12, ["sheet", "filling"], ["sheet", "filling"], true, f_need_filling⟩
def d_agrees : DefE := ⟨"agrees", top 13, ["sheet", "filling", "part", "k"], ["sheet", "filling", "part"], true, f_agrees⟩
def d_mixed : DefE := ⟨"mixed", top 14, ["sheet", "first", "second", "third", "k"], ["sheet", "first", "second", "third"], false, f_mixed⟩
def d_law_pouch : DefE := ⟨"_law_pouch", top 16, ["cell", "rest"], ["cell"], true, f_law_pouch⟩
def d_law_take : DefE := ⟨"_law_take", top 17, ["bag", "many", "digit", "base", "turn", "stir"], ["bag", "many"], true, f_law_take⟩
def d_law_draw_sizes : DefE := ⟨"_law_draw_sizes", top 18, ["bag", "most_spots", "far", "way", "many", "k"], ["bag", "most_spots", "far"], true, f_law_draw_sizes⟩
def d_law_draw_row : DefE := ⟨"_law_draw_row", top 19, ["bag", "sizes", "size"], ["bag", "sizes"], true, f_law_draw_row⟩
def d_law_draw_partial : DefE := ⟨"_law_draw_partial", top 20, ["bag", "sizes", "way", "found", "size"], ["bag", "sizes"], true, f_law_draw_partial⟩
def d_law_near : DefE := ⟨"_law_near", top 21, ["bag", "sizes", "row", "rate", "found", "k"], ["bag", "sizes", "row"], true, f_law_near⟩
def d_law : DefE := ⟨"law", top 22, ["script", "cell", "bag", "sizes", "a", "b", "c", "mask", "holey", "k", "at", "bent", "some", "row", "due", "x", "y", "z"], ["script"], true, f_law⟩
def defs : List DefE := [d_is_between, d_is_sheet, d_is_part_of, d_is_filling_of, d_need_sheet, d_need_part, d_need_filling, d_agrees, d_mixed, d_law_pouch, d_law_take, d_law_draw_sizes, d_law_draw_row, d_law_draw_partial, d_law_near, d_law]
def kbs : List KB := [⟨"agrees", 0, ["part", "sheet", "filling"], [.a 1, .a 2, .a 0]⟩, ⟨"mixed", 0, ["third", "first", "sheet", "second"], [.a 2, .a 1, .a 3, .a 0]⟩, ⟨"mixed", 1, ["first", "second", "third"], [.a 0, .a 1, .a 2, .a 3]⟩]
theorem hd : ∀ d ∈ defs, defB defs kbs d = true := by
  have h : defs.all (defB defs kbs) = true := by decide +kernel
  exact List.all_eq_true.mp h
theorem hnd : (defs.map (·.x)).Nodup := by decide +kernel
theorem bp_is_between : d_is_between.pos = true → ∀ (kV doc pm : Value) (an : Option Addr) (cdv ct : Value) (us : List Value), us.length = d_is_between.ps.length → bindArgs (PySem.W.fnOf d_is_between.x d_is_between.x (defArgs d_is_between.st) (defBody d_is_between.st) (defScope d_is_between.st) .none kV doc pm an cdv ct) ⟨us, []⟩ = pure (d_is_between.ps.zip us) := fun _ _ _ _ _ _ _ us hl => match us, hl with | [_, _, _], _ => rfl
theorem bk_is_between : ∀ b ∈ kbs, b.f = d_is_between.x → ∀ (kV doc pm : Value) (an : Option Addr) (cdv ct : Value) (us ws : List Value), us.length = b.n → ws.length = b.ks.length → ∃ zs, bindArgs (PySem.W.fnOf d_is_between.x d_is_between.x (defArgs d_is_between.st) (defBody d_is_between.st) (defScope d_is_between.st) .none kV doc pm an cdv ct) ⟨us, b.ks.zip ws⟩ = pure (d_is_between.ps.zip zs) ∧ Picks (us ++ ws) b.pm zs := by
  intro b hb hf
  simp only [kbs, List.mem_cons, List.not_mem_nil, or_false] at hb
  rcases hb with rfl | rfl | rfl
  · exact absurd hf (by decide +kernel)
  · exact absurd hf (by decide +kernel)
  · exact absurd hf (by decide +kernel)
theorem bp_is_sheet : d_is_sheet.pos = true → ∀ (kV doc pm : Value) (an : Option Addr) (cdv ct : Value) (us : List Value), us.length = d_is_sheet.ps.length → bindArgs (PySem.W.fnOf d_is_sheet.x d_is_sheet.x (defArgs d_is_sheet.st) (defBody d_is_sheet.st) (defScope d_is_sheet.st) .none kV doc pm an cdv ct) ⟨us, []⟩ = pure (d_is_sheet.ps.zip us) := fun _ _ _ _ _ _ _ us hl => match us, hl with | [_], _ => rfl
theorem bk_is_sheet : ∀ b ∈ kbs, b.f = d_is_sheet.x → ∀ (kV doc pm : Value) (an : Option Addr) (cdv ct : Value) (us ws : List Value), us.length = b.n → ws.length = b.ks.length → ∃ zs, bindArgs (PySem.W.fnOf d_is_sheet.x d_is_sheet.x (defArgs d_is_sheet.st) (defBody d_is_sheet.st) (defScope d_is_sheet.st) .none kV doc pm an cdv ct) ⟨us, b.ks.zip ws⟩ = pure (d_is_sheet.ps.zip zs) ∧ Picks (us ++ ws) b.pm zs := by
  intro b hb hf
  simp only [kbs, List.mem_cons, List.not_mem_nil, or_false] at hb
  rcases hb with rfl | rfl | rfl
  · exact absurd hf (by decide +kernel)
  · exact absurd hf (by decide +kernel)
  · exact absurd hf (by decide +kernel)
theorem bp_is_part_of : d_is_part_of.pos = true → ∀ (kV doc pm : Value) (an : Option Addr) (cdv ct : Value) (us : List Value), us.length = d_is_part_of.ps.length → bindArgs (PySem.W.fnOf d_is_part_of.x d_is_part_of.x (defArgs d_is_part_of.st) (defBody d_is_part_of.st) (defScope d_is_part_of.st) .none kV doc pm an cdv ct) ⟨us, []⟩ = pure (d_is_part_of.ps.zip us) := fun _ _ _ _ _ _ _ us hl => match us, hl with | [_, _], _ => rfl
theorem bk_is_part_of : ∀ b ∈ kbs, b.f = d_is_part_of.x → ∀ (kV doc pm : Value) (an : Option Addr) (cdv ct : Value) (us ws : List Value), us.length = b.n → ws.length = b.ks.length → ∃ zs, bindArgs (PySem.W.fnOf d_is_part_of.x d_is_part_of.x (defArgs d_is_part_of.st) (defBody d_is_part_of.st) (defScope d_is_part_of.st) .none kV doc pm an cdv ct) ⟨us, b.ks.zip ws⟩ = pure (d_is_part_of.ps.zip zs) ∧ Picks (us ++ ws) b.pm zs := by
  intro b hb hf
  simp only [kbs, List.mem_cons, List.not_mem_nil, or_false] at hb
  rcases hb with rfl | rfl | rfl
  · exact absurd hf (by decide +kernel)
  · exact absurd hf (by decide +kernel)
  · exact absurd hf (by decide +kernel)
theorem bp_is_filling_of : d_is_filling_of.pos = true → ∀ (kV doc pm : Value) (an : Option Addr) (cdv ct : Value) (us : List Value), us.length = d_is_filling_of.ps.length → bindArgs (PySem.W.fnOf d_is_filling_of.x d_is_filling_of.x (defArgs d_is_filling_of.st) (defBody d_is_filling_of.st) (defScope d_is_filling_of.st) .none kV doc pm an cdv ct) ⟨us, []⟩ = pure (d_is_filling_of.ps.zip us) := fun _ _ _ _ _ _ _ us hl => match us, hl with | [_, _], _ => rfl
theorem bk_is_filling_of : ∀ b ∈ kbs, b.f = d_is_filling_of.x → ∀ (kV doc pm : Value) (an : Option Addr) (cdv ct : Value) (us ws : List Value), us.length = b.n → ws.length = b.ks.length → ∃ zs, bindArgs (PySem.W.fnOf d_is_filling_of.x d_is_filling_of.x (defArgs d_is_filling_of.st) (defBody d_is_filling_of.st) (defScope d_is_filling_of.st) .none kV doc pm an cdv ct) ⟨us, b.ks.zip ws⟩ = pure (d_is_filling_of.ps.zip zs) ∧ Picks (us ++ ws) b.pm zs := by
  intro b hb hf
  simp only [kbs, List.mem_cons, List.not_mem_nil, or_false] at hb
  rcases hb with rfl | rfl | rfl
  · exact absurd hf (by decide +kernel)
  · exact absurd hf (by decide +kernel)
  · exact absurd hf (by decide +kernel)
theorem bp_need_sheet : d_need_sheet.pos = true → ∀ (kV doc pm : Value) (an : Option Addr) (cdv ct : Value) (us : List Value), us.length = d_need_sheet.ps.length → bindArgs (PySem.W.fnOf d_need_sheet.x d_need_sheet.x (defArgs d_need_sheet.st) (defBody d_need_sheet.st) (defScope d_need_sheet.st) .none kV doc pm an cdv ct) ⟨us, []⟩ = pure (d_need_sheet.ps.zip us) := fun _ _ _ _ _ _ _ us hl => match us, hl with | [_], _ => rfl
theorem bk_need_sheet : ∀ b ∈ kbs, b.f = d_need_sheet.x → ∀ (kV doc pm : Value) (an : Option Addr) (cdv ct : Value) (us ws : List Value), us.length = b.n → ws.length = b.ks.length → ∃ zs, bindArgs (PySem.W.fnOf d_need_sheet.x d_need_sheet.x (defArgs d_need_sheet.st) (defBody d_need_sheet.st) (defScope d_need_sheet.st) .none kV doc pm an cdv ct) ⟨us, b.ks.zip ws⟩ = pure (d_need_sheet.ps.zip zs) ∧ Picks (us ++ ws) b.pm zs := by
  intro b hb hf
  simp only [kbs, List.mem_cons, List.not_mem_nil, or_false] at hb
  rcases hb with rfl | rfl | rfl
  · exact absurd hf (by decide +kernel)
  · exact absurd hf (by decide +kernel)
  · exact absurd hf (by decide +kernel)
theorem bp_need_part : d_need_part.pos = true → ∀ (kV doc pm : Value) (an : Option Addr) (cdv ct : Value) (us : List Value), us.length = d_need_part.ps.length → bindArgs (PySem.W.fnOf d_need_part.x d_need_part.x (defArgs d_need_part.st) (defBody d_need_part.st) (defScope d_need_part.st) .none kV doc pm an cdv ct) ⟨us, []⟩ = pure (d_need_part.ps.zip us) := fun _ _ _ _ _ _ _ us hl => match us, hl with | [_, _], _ => rfl
theorem bk_need_part : ∀ b ∈ kbs, b.f = d_need_part.x → ∀ (kV doc pm : Value) (an : Option Addr) (cdv ct : Value) (us ws : List Value), us.length = b.n → ws.length = b.ks.length → ∃ zs, bindArgs (PySem.W.fnOf d_need_part.x d_need_part.x (defArgs d_need_part.st) (defBody d_need_part.st) (defScope d_need_part.st) .none kV doc pm an cdv ct) ⟨us, b.ks.zip ws⟩ = pure (d_need_part.ps.zip zs) ∧ Picks (us ++ ws) b.pm zs := by
  intro b hb hf
  simp only [kbs, List.mem_cons, List.not_mem_nil, or_false] at hb
  rcases hb with rfl | rfl | rfl
  · exact absurd hf (by decide +kernel)
  · exact absurd hf (by decide +kernel)
  · exact absurd hf (by decide +kernel)
theorem bp_need_filling : d_need_filling.pos = true → ∀ (kV doc pm : Value) (an : Option Addr) (cdv ct : Value) (us : List Value), us.length = d_need_filling.ps.length → bindArgs (PySem.W.fnOf d_need_filling.x d_need_filling.x (defArgs d_need_filling.st) (defBody d_need_filling.st) (defScope d_need_filling.st) .none kV doc pm an cdv ct) ⟨us, []⟩ = pure (d_need_filling.ps.zip us) := fun _ _ _ _ _ _ _ us hl => match us, hl with | [_, _], _ => rfl
theorem bk_need_filling : ∀ b ∈ kbs, b.f = d_need_filling.x → ∀ (kV doc pm : Value) (an : Option Addr) (cdv ct : Value) (us ws : List Value), us.length = b.n → ws.length = b.ks.length → ∃ zs, bindArgs (PySem.W.fnOf d_need_filling.x d_need_filling.x (defArgs d_need_filling.st) (defBody d_need_filling.st) (defScope d_need_filling.st) .none kV doc pm an cdv ct) ⟨us, b.ks.zip ws⟩ = pure (d_need_filling.ps.zip zs) ∧ Picks (us ++ ws) b.pm zs := by
  intro b hb hf
  simp only [kbs, List.mem_cons, List.not_mem_nil, or_false] at hb
  rcases hb with rfl | rfl | rfl
  · exact absurd hf (by decide +kernel)
  · exact absurd hf (by decide +kernel)
  · exact absurd hf (by decide +kernel)
theorem bp_agrees : d_agrees.pos = true → ∀ (kV doc pm : Value) (an : Option Addr) (cdv ct : Value) (us : List Value), us.length = d_agrees.ps.length → bindArgs (PySem.W.fnOf d_agrees.x d_agrees.x (defArgs d_agrees.st) (defBody d_agrees.st) (defScope d_agrees.st) .none kV doc pm an cdv ct) ⟨us, []⟩ = pure (d_agrees.ps.zip us) := fun _ _ _ _ _ _ _ us hl => match us, hl with | [_, _, _], _ => rfl
theorem bk_agrees : ∀ b ∈ kbs, b.f = d_agrees.x → ∀ (kV doc pm : Value) (an : Option Addr) (cdv ct : Value) (us ws : List Value), us.length = b.n → ws.length = b.ks.length → ∃ zs, bindArgs (PySem.W.fnOf d_agrees.x d_agrees.x (defArgs d_agrees.st) (defBody d_agrees.st) (defScope d_agrees.st) .none kV doc pm an cdv ct) ⟨us, b.ks.zip ws⟩ = pure (d_agrees.ps.zip zs) ∧ Picks (us ++ ws) b.pm zs := by
  intro b hb hf
  simp only [kbs, List.mem_cons, List.not_mem_nil, or_false] at hb
  rcases hb with rfl | rfl | rfl
  · exact fun kV doc pm an cdv ct us ws h1 h2 => match us, ws, h1, h2 with | [], [w0, w1, w2], _, _ => ⟨[w1, w2, w0], rfl, (.a rfl (.a rfl (.a rfl .nil)))⟩
  · exact absurd hf (by decide +kernel)
  · exact absurd hf (by decide +kernel)
theorem bp_mixed : d_mixed.pos = true → ∀ (kV doc pm : Value) (an : Option Addr) (cdv ct : Value) (us : List Value), us.length = d_mixed.ps.length → bindArgs (PySem.W.fnOf d_mixed.x d_mixed.x (defArgs d_mixed.st) (defBody d_mixed.st) (defScope d_mixed.st) .none kV doc pm an cdv ct) ⟨us, []⟩ = pure (d_mixed.ps.zip us) := fun h => by cases h
theorem bk_mixed : ∀ b ∈ kbs, b.f = d_mixed.x → ∀ (kV doc pm : Value) (an : Option Addr) (cdv ct : Value) (us ws : List Value), us.length = b.n → ws.length = b.ks.length → ∃ zs, bindArgs (PySem.W.fnOf d_mixed.x d_mixed.x (defArgs d_mixed.st) (defBody d_mixed.st) (defScope d_mixed.st) .none kV doc pm an cdv ct) ⟨us, b.ks.zip ws⟩ = pure (d_mixed.ps.zip zs) ∧ Picks (us ++ ws) b.pm zs := by
  intro b hb hf
  simp only [kbs, List.mem_cons, List.not_mem_nil, or_false] at hb
  rcases hb with rfl | rfl | rfl
  · exact absurd hf (by decide +kernel)
  · exact fun kV doc pm an cdv ct us ws h1 h2 => match us, ws, h1, h2 with | [], [w0, w1, w2, w3], _, _ => ⟨[w2, w1, w3, w0], rfl, (.a rfl (.a rfl (.a rfl (.a rfl .nil))))⟩
  · exact fun kV doc pm an cdv ct us ws h1 h2 => match us, ws, h1, h2 with | [u0], [w0, w1, w2], _, _ => ⟨[u0, w0, w1, w2], rfl, (.a rfl (.a rfl (.a rfl (.a rfl .nil))))⟩
theorem bp_law_pouch : d_law_pouch.pos = true → ∀ (kV doc pm : Value) (an : Option Addr) (cdv ct : Value) (us : List Value), us.length = d_law_pouch.ps.length → bindArgs (PySem.W.fnOf d_law_pouch.x d_law_pouch.x (defArgs d_law_pouch.st) (defBody d_law_pouch.st) (defScope d_law_pouch.st) .none kV doc pm an cdv ct) ⟨us, []⟩ = pure (d_law_pouch.ps.zip us) := fun _ _ _ _ _ _ _ us hl => match us, hl with | [_], _ => rfl
theorem bk_law_pouch : ∀ b ∈ kbs, b.f = d_law_pouch.x → ∀ (kV doc pm : Value) (an : Option Addr) (cdv ct : Value) (us ws : List Value), us.length = b.n → ws.length = b.ks.length → ∃ zs, bindArgs (PySem.W.fnOf d_law_pouch.x d_law_pouch.x (defArgs d_law_pouch.st) (defBody d_law_pouch.st) (defScope d_law_pouch.st) .none kV doc pm an cdv ct) ⟨us, b.ks.zip ws⟩ = pure (d_law_pouch.ps.zip zs) ∧ Picks (us ++ ws) b.pm zs := by
  intro b hb hf
  simp only [kbs, List.mem_cons, List.not_mem_nil, or_false] at hb
  rcases hb with rfl | rfl | rfl
  · exact absurd hf (by decide +kernel)
  · exact absurd hf (by decide +kernel)
  · exact absurd hf (by decide +kernel)
theorem bp_law_take : d_law_take.pos = true → ∀ (kV doc pm : Value) (an : Option Addr) (cdv ct : Value) (us : List Value), us.length = d_law_take.ps.length → bindArgs (PySem.W.fnOf d_law_take.x d_law_take.x (defArgs d_law_take.st) (defBody d_law_take.st) (defScope d_law_take.st) .none kV doc pm an cdv ct) ⟨us, []⟩ = pure (d_law_take.ps.zip us) := fun _ _ _ _ _ _ _ us hl => match us, hl with | [_, _], _ => rfl
theorem bk_law_take : ∀ b ∈ kbs, b.f = d_law_take.x → ∀ (kV doc pm : Value) (an : Option Addr) (cdv ct : Value) (us ws : List Value), us.length = b.n → ws.length = b.ks.length → ∃ zs, bindArgs (PySem.W.fnOf d_law_take.x d_law_take.x (defArgs d_law_take.st) (defBody d_law_take.st) (defScope d_law_take.st) .none kV doc pm an cdv ct) ⟨us, b.ks.zip ws⟩ = pure (d_law_take.ps.zip zs) ∧ Picks (us ++ ws) b.pm zs := by
  intro b hb hf
  simp only [kbs, List.mem_cons, List.not_mem_nil, or_false] at hb
  rcases hb with rfl | rfl | rfl
  · exact absurd hf (by decide +kernel)
  · exact absurd hf (by decide +kernel)
  · exact absurd hf (by decide +kernel)
theorem bp_law_draw_sizes : d_law_draw_sizes.pos = true → ∀ (kV doc pm : Value) (an : Option Addr) (cdv ct : Value) (us : List Value), us.length = d_law_draw_sizes.ps.length → bindArgs (PySem.W.fnOf d_law_draw_sizes.x d_law_draw_sizes.x (defArgs d_law_draw_sizes.st) (defBody d_law_draw_sizes.st) (defScope d_law_draw_sizes.st) .none kV doc pm an cdv ct) ⟨us, []⟩ = pure (d_law_draw_sizes.ps.zip us) := fun _ _ _ _ _ _ _ us hl => match us, hl with | [_, _, _], _ => rfl
theorem bk_law_draw_sizes : ∀ b ∈ kbs, b.f = d_law_draw_sizes.x → ∀ (kV doc pm : Value) (an : Option Addr) (cdv ct : Value) (us ws : List Value), us.length = b.n → ws.length = b.ks.length → ∃ zs, bindArgs (PySem.W.fnOf d_law_draw_sizes.x d_law_draw_sizes.x (defArgs d_law_draw_sizes.st) (defBody d_law_draw_sizes.st) (defScope d_law_draw_sizes.st) .none kV doc pm an cdv ct) ⟨us, b.ks.zip ws⟩ = pure (d_law_draw_sizes.ps.zip zs) ∧ Picks (us ++ ws) b.pm zs := by
  intro b hb hf
  simp only [kbs, List.mem_cons, List.not_mem_nil, or_false] at hb
  rcases hb with rfl | rfl | rfl
  · exact absurd hf (by decide +kernel)
  · exact absurd hf (by decide +kernel)
  · exact absurd hf (by decide +kernel)
theorem bp_law_draw_row : d_law_draw_row.pos = true → ∀ (kV doc pm : Value) (an : Option Addr) (cdv ct : Value) (us : List Value), us.length = d_law_draw_row.ps.length → bindArgs (PySem.W.fnOf d_law_draw_row.x d_law_draw_row.x (defArgs d_law_draw_row.st) (defBody d_law_draw_row.st) (defScope d_law_draw_row.st) .none kV doc pm an cdv ct) ⟨us, []⟩ = pure (d_law_draw_row.ps.zip us) := fun _ _ _ _ _ _ _ us hl => match us, hl with | [_, _], _ => rfl
theorem bk_law_draw_row : ∀ b ∈ kbs, b.f = d_law_draw_row.x → ∀ (kV doc pm : Value) (an : Option Addr) (cdv ct : Value) (us ws : List Value), us.length = b.n → ws.length = b.ks.length → ∃ zs, bindArgs (PySem.W.fnOf d_law_draw_row.x d_law_draw_row.x (defArgs d_law_draw_row.st) (defBody d_law_draw_row.st) (defScope d_law_draw_row.st) .none kV doc pm an cdv ct) ⟨us, b.ks.zip ws⟩ = pure (d_law_draw_row.ps.zip zs) ∧ Picks (us ++ ws) b.pm zs := by
  intro b hb hf
  simp only [kbs, List.mem_cons, List.not_mem_nil, or_false] at hb
  rcases hb with rfl | rfl | rfl
  · exact absurd hf (by decide +kernel)
  · exact absurd hf (by decide +kernel)
  · exact absurd hf (by decide +kernel)
theorem bp_law_draw_partial : d_law_draw_partial.pos = true → ∀ (kV doc pm : Value) (an : Option Addr) (cdv ct : Value) (us : List Value), us.length = d_law_draw_partial.ps.length → bindArgs (PySem.W.fnOf d_law_draw_partial.x d_law_draw_partial.x (defArgs d_law_draw_partial.st) (defBody d_law_draw_partial.st) (defScope d_law_draw_partial.st) .none kV doc pm an cdv ct) ⟨us, []⟩ = pure (d_law_draw_partial.ps.zip us) := fun _ _ _ _ _ _ _ us hl => match us, hl with | [_, _], _ => rfl
theorem bk_law_draw_partial : ∀ b ∈ kbs, b.f = d_law_draw_partial.x → ∀ (kV doc pm : Value) (an : Option Addr) (cdv ct : Value) (us ws : List Value), us.length = b.n → ws.length = b.ks.length → ∃ zs, bindArgs (PySem.W.fnOf d_law_draw_partial.x d_law_draw_partial.x (defArgs d_law_draw_partial.st) (defBody d_law_draw_partial.st) (defScope d_law_draw_partial.st) .none kV doc pm an cdv ct) ⟨us, b.ks.zip ws⟩ = pure (d_law_draw_partial.ps.zip zs) ∧ Picks (us ++ ws) b.pm zs := by
  intro b hb hf
  simp only [kbs, List.mem_cons, List.not_mem_nil, or_false] at hb
  rcases hb with rfl | rfl | rfl
  · exact absurd hf (by decide +kernel)
  · exact absurd hf (by decide +kernel)
  · exact absurd hf (by decide +kernel)
theorem bp_law_near : d_law_near.pos = true → ∀ (kV doc pm : Value) (an : Option Addr) (cdv ct : Value) (us : List Value), us.length = d_law_near.ps.length → bindArgs (PySem.W.fnOf d_law_near.x d_law_near.x (defArgs d_law_near.st) (defBody d_law_near.st) (defScope d_law_near.st) .none kV doc pm an cdv ct) ⟨us, []⟩ = pure (d_law_near.ps.zip us) := fun _ _ _ _ _ _ _ us hl => match us, hl with | [_, _, _], _ => rfl
theorem bk_law_near : ∀ b ∈ kbs, b.f = d_law_near.x → ∀ (kV doc pm : Value) (an : Option Addr) (cdv ct : Value) (us ws : List Value), us.length = b.n → ws.length = b.ks.length → ∃ zs, bindArgs (PySem.W.fnOf d_law_near.x d_law_near.x (defArgs d_law_near.st) (defBody d_law_near.st) (defScope d_law_near.st) .none kV doc pm an cdv ct) ⟨us, b.ks.zip ws⟩ = pure (d_law_near.ps.zip zs) ∧ Picks (us ++ ws) b.pm zs := by
  intro b hb hf
  simp only [kbs, List.mem_cons, List.not_mem_nil, or_false] at hb
  rcases hb with rfl | rfl | rfl
  · exact absurd hf (by decide +kernel)
  · exact absurd hf (by decide +kernel)
  · exact absurd hf (by decide +kernel)
theorem bp_law : d_law.pos = true → ∀ (kV doc pm : Value) (an : Option Addr) (cdv ct : Value) (us : List Value), us.length = d_law.ps.length → bindArgs (PySem.W.fnOf d_law.x d_law.x (defArgs d_law.st) (defBody d_law.st) (defScope d_law.st) .none kV doc pm an cdv ct) ⟨us, []⟩ = pure (d_law.ps.zip us) := fun _ _ _ _ _ _ _ us hl => match us, hl with | [_], _ => rfl
theorem bk_law : ∀ b ∈ kbs, b.f = d_law.x → ∀ (kV doc pm : Value) (an : Option Addr) (cdv ct : Value) (us ws : List Value), us.length = b.n → ws.length = b.ks.length → ∃ zs, bindArgs (PySem.W.fnOf d_law.x d_law.x (defArgs d_law.st) (defBody d_law.st) (defScope d_law.st) .none kV doc pm an cdv ct) ⟨us, b.ks.zip ws⟩ = pure (d_law.ps.zip zs) ∧ Picks (us ++ ws) b.pm zs := by
  intro b hb hf
  simp only [kbs, List.mem_cons, List.not_mem_nil, or_false] at hb
  rcases hb with rfl | rfl | rfl
  · exact absurd hf (by decide +kernel)
  · exact absurd hf (by decide +kernel)
  · exact absurd hf (by decide +kernel)
end Q.K06
end
section
set_option maxHeartbeats 4000000
namespace Q.K06
open PySem Q
abbrev T : Tbl := tbl defs
/-! ### draws -/
theorem T_take : T "_law_take" = some f_law_take := rfl
theorem T_pouch : T "_law_pouch" = some f_law_pouch := rfl
def BagOk (m : Nat) (xs : List PV) : Prop := ∃ a b c : Int, xs = [.int a, .int b, .int c] ∧ 0 ≤ b ∧ b < 999999999999999989 ∧ 0 ≤ c ∧ c ≤ m
theorem BagOk.up {m m' : Nat} {xs : List PV} (h : BagOk m xs) (hm : m ≤ m') : BagOk m' xs := by
  obtain ⟨a, b, c, e, h1, h2, h3, h4⟩ := h
  exact ⟨a, b, c, e, h1, h2, h3, by omega⟩
theorem take_wp {n m : Nat} {many : Int} {xs : List PV} {g : List GI} {q : SV → List SV → List GI → Prop} {e : XV → List SV → List GI → Prop} (h1 : 0 < many) (h2 : many ≤ 1000) (hb : BagOk m xs) (hm : m ≤ 1000000)
    (k : ∀ d xs', 0 ≤ d → d < many → BagOk (m + 1) xs' → q (.v (.int d)) [.own (.lst xs'), .v (.int many)] g) : (callN T (n + 1) "_law_take" [.own (.lst xs), .v (.int many)] g).wq q e := by
  obtain ⟨a, b, c, rfl, hb1, hb2, hc1, hc2⟩ := hb
  have l2 : many.natAbs.log2 < 9000 := by
    have := log_lt (i := many) (k := 10) (by omega) (by decide)
    omega
  rw [callN, T_take]
  by_cases ha : 0 < a
  · simp [f_law_take, frzArgs, exs, ex, tst, ev, evL, envAt, ER.get, ixO, DV.seq, ixN, cmpO, ltI, truthy, ha, bltO, binO, binI, h1, l2, store, Ctx.ro, ST.put, ownsD, frzO, ER.frz, subO, retO, finals, okBack]
    exact k _ _ (Int.emod_nonneg _ (by omega)) (Int.emod_lt_of_pos _ h1) ⟨_, b, c, rfl, hb1, hb2, hc1, by omega⟩
  · generalize ht : c + 1 = t
    have t1 : t.natAbs < 2 ^ 20 := by omega
    have b1 : b.natAbs < 2 ^ 60 := by omega
    have c5 : (5 : Int).natAbs < 2 ^ 3 := by decide
    have e1 := mul_ok c5 t1 (by decide) (by decide) (by decide)
    have c10007 : (10007 : Int).natAbs < 2 ^ 14 := by decide
    have e2 := mul_ok c10007 t1 (by decide) (by decide) (by decide)
    have d2 := bd_mul c10007 t1
    have e3 := mul_ok d2 t1 (by decide) (by decide) (by decide)
    have d3 := bd_mul d2 t1
    have d1 := bd_mul c5 t1
    have x1 := bd_add b1 (bd_up (l := 60) d1 (by decide))
    have x2 := bd_add (bd_add b1 (bd_up (l := 60) d3 (by decide))) (j := 71) (by decide)
    have e4 := mul_ok x1 x2 (by decide) (by decide) (by decide)
    generalize hS : (b + 5 * t) * (b + 10007 * t * t + 71) % 9999999999999937 = S
    have s1 : S.natAbs < 2 ^ 54 := by
      have := Int.emod_nonneg ((b + 5 * t) * (b + 10007 * t * t + 71)) (b := 9999999999999937) (by decide)
      have := Int.emod_lt_of_pos ((b + 5 * t) * (b + 10007 * t * t + 71)) (b := 9999999999999937) (by decide)
      omega
    have e5 := mul_ok s1 s1 (by decide) (by decide) (by decide)
    have e6 := mul_ok (bd_mul s1 s1) s1 (by decide) (by decide) (by decide)
    have e7 := mul_ok (i := 40961) (k := 16) (by decide) s1 (by decide) (by decide) (by decide)
    have e8 := mul_ok (i := 977) (k := 10) (by decide) t1 (by decide) (by decide) (by decide)
    simp [f_law_take, frzArgs, exs, ex, tst, ev, evL, envAt, ER.get, ixO, DV.seq, ixN, cmpO, ltI, truthy, ha, bltO, binO, binI, h1, l2, store, Ctx.ro, ST.put, ownsD, frzO, ER.frz, subO, retO, finals, okBack, storeAll, frzSl, ht, hS, e1, e2, e3, e4, e5, e6, e7, e8, show (4096 : Nat).log2 = 12 from by decide]
    exact k _ _ (Int.emod_nonneg _ (by omega)) (Int.emod_lt_of_pos _ h1) ⟨a, b, t, rfl, hb1, hb2, by omega, by omega⟩
theorem pouch_wp {n : Nat} {cell : Int} {g : List GI} {q : SV → List SV → List GI → Prop} {e : XV → List SV → List GI → Prop} (k : ∀ xs', BagOk 0 xs' → q (.own (.lst xs')) [.v (.int cell)] g) : (callN T (n + 1) "_law_pouch" [.v (.int cell)] g).wq q e := by
  rw [callN, T_pouch]
  have p1 : powOk 10 18 = true := by decide
  by_cases h : 1000000000000000000 < cell
  · simp [f_law_pouch, frzArgs, exs, ex, tst, ev, evL, envAt, ER.get, cmpO, ltI, truthy, bltO, binO, binI, store, Ctx.ro, ST.put, ER.frz, retO, finals, okBack, frzL, p1, h, line]
    exact k _ ⟨_, _, _, rfl, Int.emod_nonneg _ (by omega), Int.emod_lt_of_pos _ (by omega), by omega, by omega⟩
  · simp [f_law_pouch, frzArgs, exs, ex, tst, ev, evL, envAt, ER.get, cmpO, ltI, truthy, bltO, binO, binI, store, Ctx.ro, ST.put, ER.frz, retO, finals, okBack, frzL, p1, h, line]
    exact k _ ⟨_, _, _, rfl, Int.emod_nonneg _ (by omega), Int.emod_lt_of_pos _ (by omega), by omega, by omega⟩
/-! ### the package: is_between, is_sheet -/
theorem T_between : T "is_between" = some f_is_between := rfl
theorem between_wp {n : Nat} {i lo hi : Int} {g : List GI} {q : SV → List SV → List GI → Prop} {e : XV → List SV → List GI → Prop} (k : q (.v (.bl (decide (lo ≤ i) && decide (i < hi)))) [.v (.int i), .v (.int lo), .v (.int hi)] g) :
    (callN T (n + 1) "is_between" [.v (.int i), .v (.int lo), .v (.int hi)] g).wq q e := by
  rw [callN, T_between]
  by_cases h : lo ≤ i
  · simp [f_is_between, frzArgs, exs, ex, tst, ev, evL, envAt, ER.get, cmpO, ltI, truthy, isiO, asBool, retO, finals, okBack, h]
    simpa [h] using k
  · simp [f_is_between, frzArgs, exs, ex, tst, ev, evL, envAt, ER.get, cmpO, ltI, truthy, isiO, asBool, retO, finals, okBack, h]
    simpa [h] using k
end Q.K06
end
section
set_option maxHeartbeats 4000000
namespace Q.K06
open PySem Q
def tsz (ns : List Int) : PV := .tup (ns.map .int)
def SzOk (ns : List Int) : Prop := 1 ≤ ns.length ∧ ns.length ≤ 8 ∧ ∀ s ∈ ns, 1 ≤ s ∧ s ≤ 5
theorem all_true : ∀ n : Nat, boolsOf (List.replicate n (.bl true)) = some (List.replicate n true)
  | 0 => rfl
  | n + 1 => by
    rw [List.replicate_succ, boolsOf, all_true n]
    rfl
theorem rep_add {α : Type} (i : Nat) (a : α) : List.replicate i a ++ [a] = List.replicate (i + 1) a := by
  rw [List.replicate_succ']
theorem map_at {α : Type} {f : α → PV} {ns : List α} {i : Nat} {x : PV} (h : (ns.map f)[i]? = some x) : ∃ s, ns[i]? = some s ∧ x = f s := by
  rw [List.getElem?_map] at h
  obtain ⟨s, h1, h2⟩ := Option.map_eq_some_iff.mp h
  exact ⟨s, h1, h2.symm⟩
theorem T_sheet : T "is_sheet" = some f_is_sheet := rfl
theorem sheet_wp {n : Nat} {ns : List Int} {g : List GI} {q : SV → List SV → List GI → Prop} {e : XV → List SV → List GI → Prop} (hs : SzOk ns) (k : q (.v (.bl true)) [.v (tsz ns)] g) : (callN T (n + 2) "is_sheet" [.v (tsz ns)] g).wq q e := by
  refine call_wp T_sheet rfl rfl ?_
  have h1 : (1 : Int) ≤ ns.length := by have := hs.1; omega
  have h2 : (ns.length : Int) ≤ 8 := by have := hs.2.1; omega
  simp [f_is_sheet, tsz, exs, ex, tst, ev, evL, evI, envAt, ER.get, cmpO, ltI, truthy, isiO, bltO, DV.seq, h1, h2, ER.frz, itemsOf]
  refine map_wp (fun i acc st => acc = List.replicate i (.bl true) ∧ st = ⟨[some (.v (.tup (ns.map .int))), none], g⟩) ?_ ⟨rfl, rfl⟩ ?_
  · rintro i x acc st hx ⟨rfl, rfl⟩
    obtain ⟨s, hs', rfl⟩ : ∃ s, ns[i]? = some s ∧ x = .int s := map_at hx
    obtain ⟨s1, s2⟩ := hs.2.2 s (List.mem_of_getElem? hs')
    refine lcF_ok rfl ?_
    simp [tst, ev, evL, envAt, wipeS, wipeE, ST.put, svAll, ER.sv, slotsOf]
    refine between_wp ?_
    simp [back, SV.er, ER.frz, wipeS, wipeE, rep_add, s1, show s < 6 by omega]
  · rintro r st ⟨rfl, rfl⟩
    have hl : ns.length ≤ line := by have := hs.2.1; unfold line; omega
    simp [hl, ER.get, DV.lst, all_true, retO, finals, envAt, okBack, bltO]
    simpa [tsz] using k
/-! ### parts, fillings -/
def po : Option Int → PV
  | none => .non
  | some i => .int i
def tpt (os : List (Option Int)) : PV := .tup (os.map po)
/-- a part of the sheet -/
def PtOk (ns : List Int) (os : List (Option Int)) : Prop := os.length = ns.length ∧ ∀ (k : Nat) (s i : Int), ns[k]? = some s → os[k]? = some (some i) → 0 ≤ i ∧ i < s
theorem ranged_at {lo : Int} {n i : Nat} {x : PV} (h : (ranged lo n)[i]? = some x) : i < n ∧ x = .int (lo + i) := by
  unfold ranged at h
  obtain ⟨j, h1, h2⟩ := map_at h
  obtain ⟨hl, e⟩ := List.getElem?_eq_some_iff.mp h1
  simp at hl e
  subst e
  exact ⟨hl, h2⟩
theorem ixN_at {n i : Nat} (h : i < n) : ixN n (i : Int) = some i := by
  unfold ixN
  simp [h]
theorem ix_tup {xs : List PV} {i : Nat} {x : PV} (h : xs[i]? = some x) : ixO (.v (.tup xs)) (.v (.int (i : Int))) = some x := by
  have hl := (List.getElem?_eq_some_iff.mp h).1
  simp [ixO, DV.seq, ixN_at hl, h]
theorem T_part : T "is_part_of" = some f_is_part_of := rfl
theorem part_wp {n : Nat} {ns : List Int} {os : List (Option Int)} {g : List GI} {q : SV → List SV → List GI → Prop} {e : XV → List SV → List GI → Prop} (hs : SzOk ns) (hp : PtOk ns os) (k : q (.v (.bl true)) [.v (tsz ns), .v (tpt os)] g) :
    (callN T (n + 2) "is_part_of" [.v (tsz ns), .v (tpt os)] g).wq q e := by
  refine call_wp T_part rfl rfl ?_
  have hl := hp.1
  have h8 := hs.2.1
  have hi : (os.length : Int) = ns.length := by omega
  have c1 : (-4611686018427387904 : Int) ≤ ns.length := by omega
  have c2 : (ns.length : Int) ≤ 16777216 := by omega
  have e0 : cmpO .NotEq (.v (.int (os.length : Int))) (.v (.int (ns.length : Int))) = some false := by
    rw [ne_int (by omega) (by omega), hi]
    simp
  simp [f_is_part_of, tsz, tpt, exs, ex, tst, ev, evL, evI, envAt, ER.get, truthy, isiO, bltO, DV.seq, e0, rngO, big, line, c1, c2]
  refine map_wp (fun i acc st => acc = List.replicate i (.bl true) ∧ st = ⟨[some (.v (.tup (ns.map .int))), some (.v (.tup (os.map po))), none], g⟩) ?_ ⟨rfl, rfl⟩ ?_
  · rintro i x acc st hx ⟨rfl, rfl⟩
    obtain ⟨hi, rfl⟩ := ranged_at hx
    rw [Int.zero_add]
    have hi' : i < os.length := by omega
    have n1 : (ns.map PV.int)[i]? = some (.int ns[i]) := by simp [hi]
    have o1 : (os.map po)[i]? = some (po os[i]) := by simp [hi']
    refine lcF_ok rfl ?_
    cases ho : os[i] with
    | none =>
      rw [ho] at o1
      simp [tst, ev, evL, envAt, wipeS, wipeE, ST.put, ER.get, ix_tup o1, po, cmpO, isO, isNone, asBool, ER.frz, rep_add]
    | some v =>
      rw [ho] at o1
      obtain ⟨v1, v2⟩ := hp.2 i ns[i] v (by simp [hi]) (by simp [hi', ho])
      simp [tst, ev, evL, envAt, wipeS, wipeE, ST.put, ER.get, ix_tup o1, ix_tup n1, po, cmpO, isO, isNone, asBool, ER.frz, svAll, ER.sv, slotsOf]
      refine between_wp ?_
      simp [back, SV.er, ER.frz, wipeS, wipeE, rep_add, v1, v2]
  · rintro r st ⟨rfl, rfl⟩
    have hr : (ranged 0 ns.length).length = ns.length := by simp [ranged]
    have hz : ns.length ≤ 16777216 := by omega
    simp [hr, hz, ER.get, DV.lst, all_true, retO, finals, envAt, okBack, bltO]
    simpa [tsz, tpt] using k
/-- a filling of the sheet -/
def FlOk (ns vs : List Int) : Prop := vs.length = ns.length ∧ ∀ (k : Nat) (s i : Int), ns[k]? = some s → vs[k]? = some i → 0 ≤ i ∧ i < s
theorem FlOk.pt {ns vs : List Int} (h : FlOk ns vs) : PtOk ns (vs.map some) := by
  refine ⟨by rw [List.length_map]; exact h.1, fun k s i h1 h2 => ?_⟩
  rw [List.getElem?_map] at h2
  obtain ⟨v, h3, h4⟩ := Option.map_eq_some_iff.mp h2
  cases h4
  exact h.2 k s _ h1 h3
theorem tpt_some (vs : List Int) : tpt (vs.map some) = tsz vs := by
  unfold tpt tsz
  rw [List.map_map]
  rfl
theorem T_fill : T "is_filling_of" = some f_is_filling_of := rfl
theorem fill_wp {n : Nat} {ns vs : List Int} {g : List GI} {q : SV → List SV → List GI → Prop} {e : XV → List SV → List GI → Prop} (hs : SzOk ns) (hv : FlOk ns vs) (k : q (.v (.bl true)) [.v (tsz ns), .v (tsz vs)] g) :
    (callN T (n + 3) "is_filling_of" [.v (tsz ns), .v (tsz vs)] g).wq q e := by
  refine call_wp T_fill rfl rfl ?_
  have hl := hv.1
  have h8 := hs.2.1
  simp [f_is_filling_of, exs, ex, ev, evL, envAt, svAll, ER.sv, slotsOf]
  rw [← tpt_some vs]
  refine part_wp hs hv.pt ?_
  rw [tpt_some vs]
  simp [back, SV.er, asBool, ER.get, ev, evL, evI, envAt, ER.frz, tsz, itemsOf]
  refine map_wp (fun i acc st => acc = List.replicate i (.bl true) ∧ st = ⟨[some (.v (.tup (ns.map .int))), some (.v (.tup (vs.map .int))), none], g⟩) ?_ ⟨rfl, rfl⟩ ?_
  · rintro i x acc st hx ⟨rfl, rfl⟩
    obtain ⟨s, hs', rfl⟩ := map_at hx
    refine lcF_ok rfl ?_
    simp [tst, ev, evL, envAt, wipeS, wipeE, ST.put, ER.get, cmpO, isO, isNone, ER.frz, rep_add]
  · rintro r st ⟨rfl, rfl⟩
    have hz : vs.length ≤ line := by unfold line; omega
    simp [hz, ER.get, DV.lst, all_true, retO, finals, envAt, okBack, bltO]
    simpa [tsz] using k
theorem T_ns : T "need_sheet" = some f_need_sheet := rfl
theorem T_np : T "need_part" = some f_need_part := rfl
theorem T_nf : T "need_filling" = some f_need_filling := rfl
theorem ns_wp {n : Nat} {ns : List Int} {g : List GI} {q : SV → List SV → List GI → Prop} {e : XV → List SV → List GI → Prop} (hs : SzOk ns) (k : q (.v .non) [.v (tsz ns)] g) : (callN T (n + 3) "need_sheet" [.v (tsz ns)] g).wq q e := by
  refine call_wp T_ns rfl rfl ?_
  simp [f_need_sheet, exs, ex, tst, ev, evL, envAt, svAll, ER.sv, slotsOf]
  refine sheet_wp hs ?_
  simp [back, SV.er, ER.get, truthy, exs, retO, finals, envAt, okBack]
  exact k
theorem np_wp {n : Nat} {ns : List Int} {os : List (Option Int)} {g : List GI} {q : SV → List SV → List GI → Prop} {e : XV → List SV → List GI → Prop} (hs : SzOk ns) (hp : PtOk ns os) (k : q (.v .non) [.v (tsz ns), .v (tpt os)] g) : (callN T (n + 3) "need_part" [.v (tsz ns), .v (tpt os)] g).wq q e := by
  refine call_wp T_np rfl rfl ?_
  simp [f_need_part, exs, ex, tst, ev, evL, envAt, svAll, ER.sv, slotsOf]
  refine part_wp hs hp ?_
  simp [back, SV.er, ER.get, truthy, exs, retO, finals, envAt, okBack]
  exact k
theorem nf_wp {n : Nat} {ns vs : List Int} {g : List GI} {q : SV → List SV → List GI → Prop} {e : XV → List SV → List GI → Prop} (hs : SzOk ns) (hv : FlOk ns vs) (k : q (.v .non) [.v (tsz ns), .v (tsz vs)] g) : (callN T (n + 4) "need_filling" [.v (tsz ns), .v (tsz vs)] g).wq q e := by
  refine call_wp T_nf rfl rfl ?_
  simp [f_need_filling, exs, ex, tst, ev, evL, envAt, svAll, ER.sv, slotsOf]
  refine fill_wp hs hv ?_
  simp [back, SV.er, ER.get, truthy, exs, retO, finals, envAt, okBack]
  exact k
end Q.K06
end
section
set_option maxHeartbeats 4000000
namespace Q.K06
open PySem Q
/-! ### agrees, mixed -/
def okAt (os : List (Option Int)) (vs : List Int) (k : Nat) : Bool := match os[k]?, vs[k]? with
  | some none, _ => true
  | some (some i), some j => i == j
  | _, _ => false
def agr (os : List (Option Int)) (vs : List Int) : Bool := (List.range os.length).all (okAt os vs)
theorem bools_map (f : Nat → Bool) : ∀ l : List Nat, boolsOf (l.map fun k => .bl (f k)) = some (l.map f)
  | [] => rfl
  | a :: l => by
    rw [List.map_cons, boolsOf, bools_map f l]
    rfl
theorem range_map {α : Type} (f : Nat → α) (i : Nat) : (List.range i).map f ++ [f i] = (List.range (i + 1)).map f := by
  rw [List.range_succ, List.map_append]
  rfl
theorem T_agrees : T "agrees" = some f_agrees := rfl
theorem small_pt {ns : List Int} {os : List (Option Int)} {k : Nat} {i : Int} (hs : SzOk ns) (hp : PtOk ns os) (h : os[k]? = some (some i)) : i.natAbs < 10 ^ 12 := by
  have hk := (List.getElem?_eq_some_iff.mp h).1
  have hl := hp.1
  obtain ⟨a, b⟩ := hp.2 k ns[k] i (by simp [show k < ns.length by omega]) h
  have := hs.2.2 ns[k] (List.getElem_mem _)
  omega
theorem small_fl {ns vs : List Int} {k : Nat} {i : Int} (hs : SzOk ns) (hv : FlOk ns vs) (h : vs[k]? = some i) : i.natAbs < 10 ^ 12 := by
  refine small_pt (k := k) hs hv.pt ?_
  rw [List.getElem?_map, h]
  rfl
theorem agrees_wp {n : Nat} {ns vs : List Int} {os : List (Option Int)} {g : List GI} {q : SV → List SV → List GI → Prop} {e : XV → List SV → List GI → Prop} (hs : SzOk ns) (hv : FlOk ns vs) (hp : PtOk ns os) (k : q (.v (.bl (agr os vs))) [.v (tsz ns), .v (tsz vs), .v (tpt os)] g) :
    (callN T (n + 5) "agrees" [.v (tsz ns), .v (tsz vs), .v (tpt os)] g).wq q e := by
  refine call_wp T_agrees rfl rfl ?_
  have hl := hv.1
  have hl2 := hp.1
  have h8 := hs.2.1
  have c1 : (-4611686018427387904 : Int) ≤ os.length := by omega
  have c2 : (os.length : Int) ≤ 16777216 := by omega
  simp [f_agrees, exs, ex, ev, evL, envAt, svAll, ER.sv, slotsOf]
  refine ns_wp hs ?_
  simp [back, SV.er, exs, ex, ev, evL, envAt, svAll, ER.sv, slotsOf]
  refine nf_wp hs hv ?_
  simp [back, SV.er, exs, ex, ev, evL, envAt, svAll, ER.sv, slotsOf]
  refine np_wp hs hp ?_
  simp [back, SV.er, exs, ex, ev, evL, evI, envAt, ER.get, tpt, tsz, bltO, DV.seq, rngO, big, line, c1, c2]
  refine map_wp (fun i acc st => acc = (List.range i).map (fun k => .bl (okAt os vs k)) ∧ st = ⟨[some (.v (.tup (ns.map .int))), some (.v (.tup (vs.map .int))), some (.v (.tup (os.map po))), none], g⟩) ?_ ⟨rfl, rfl⟩ ?_
  · rintro i x acc st hx ⟨rfl, rfl⟩
    obtain ⟨hi, rfl⟩ := ranged_at hx
    rw [Int.zero_add]
    have hv' : i < vs.length := by omega
    have o1 : (os.map po)[i]? = some (po os[i]) := by simp [hi]
    have v1 : (vs.map PV.int)[i]? = some (.int vs[i]) := by simp [hv']
    refine lcF_ok rfl ?_
    rw [← range_map]
    cases ho : os[i] with
    | none =>
      rw [ho] at o1
      have ok : okAt os vs i = true := by simp [okAt, hi, ho]
      simp [tst, ev, evL, envAt, wipeS, wipeE, ST.put, ER.get, ix_tup o1, po, cmpO, isO, isNone, asBool, ER.frz, ok]
    | some v =>
      rw [ho] at o1
      have ok : okAt os vs i = (v == vs[i]) := by simp [okAt, hi, hv', ho]
      have e1 := eq_int (small_pt hs hp (k := i) (i := v) (by simp [hi, ho])) (small_fl hs hv (k := i) (i := vs[i]) (by simp [hv']))
      simp [tst, ev, evL, envAt, wipeS, wipeE, ST.put, ER.get, ix_tup o1, ix_tup v1, po, e1, isO, isNone, asBool, ER.frz, ok, show cmpO .Is (.v (.int v)) (.v .non) = some false from rfl]
  · rintro r st ⟨rfl, rfl⟩
    have hr : (ranged 0 os.length).length = os.length := by simp [ranged]
    have hz : os.length ≤ 16777216 := by omega
    simp [hr, hz, ER.get, DV.lst, bools_map, retO, finals, envAt, okBack, bltO]
    simpa [tsz, tpt, agr] using k
def mx (a b c : List Int) (k : Nat) : Int := match a[k]?, b[k]?, c[k]? with
  | some x, some y, some z => if x == y then x else z
  | _, _, _ => 0
def mix (a b c : List Int) : List Int := (List.range a.length).map (mx a b c)
theorem T_mixed : T "mixed" = some f_mixed := rfl
theorem mixed_wp {n : Nat} {ns a b c : List Int} {g : List GI} {q : SV → List SV → List GI → Prop} {e : XV → List SV → List GI → Prop} (hs : SzOk ns) (ha : FlOk ns a) (hb : FlOk ns b) (hc : FlOk ns c) (k : q (.v (tsz (mix a b c))) [.v (tsz ns), .v (tsz a), .v (tsz b), .v (tsz c)] g) :
    (callN T (n + 5) "mixed" [.v (tsz ns), .v (tsz a), .v (tsz b), .v (tsz c)] g).wq q e := by
  refine call_wp T_mixed rfl rfl ?_
  have l1 := ha.1
  have l2 := hb.1
  have l3 := hc.1
  have h8 := hs.2.1
  have c1 : (-4611686018427387904 : Int) ≤ ns.length := by omega
  have c2 : (ns.length : Int) ≤ 16777216 := by omega
  simp [f_mixed, exs, ex, ev, evL, envAt, svAll, ER.sv, slotsOf]
  refine ns_wp hs ?_
  simp [back, SV.er, exs, ex, ev, evL, envAt, svAll, ER.sv, slotsOf]
  refine nf_wp hs ha ?_
  simp [back, SV.er, exs, ex, ev, evL, envAt, svAll, ER.sv, slotsOf]
  refine nf_wp hs hb ?_
  simp [back, SV.er, exs, ex, ev, evL, envAt, svAll, ER.sv, slotsOf]
  refine nf_wp hs hc ?_
  simp [back, SV.er, exs, ex, ev, evL, evI, envAt, ER.get, tsz, bltO, DV.seq, rngO, big, line, c1, c2]
  refine map_wp (fun i acc st => acc = (List.range i).map (fun k => .int (mx a b c k)) ∧ st = ⟨[some (.v (.tup (ns.map .int))), some (.v (.tup (a.map .int))), some (.v (.tup (b.map .int))), some (.v (.tup (c.map .int))), none], g⟩) ?_ ⟨rfl, rfl⟩ ?_
  · rintro i x acc st hx ⟨rfl, rfl⟩
    obtain ⟨hi, rfl⟩ := ranged_at hx
    rw [Int.zero_add]
    have h1 : i < a.length := by omega
    have h2 : i < b.length := by omega
    have h3 : i < c.length := by omega
    have a1 : (a.map PV.int)[i]? = some (.int a[i]) := by simp [h1]
    have b1 : (b.map PV.int)[i]? = some (.int b[i]) := by simp [h2]
    have d1 : (c.map PV.int)[i]? = some (.int c[i]) := by simp [h3]
    have e1 := eq_int (small_fl hs ha (k := i) (i := a[i]) (by simp [h1])) (small_fl hs hb (k := i) (i := b[i]) (by simp [h2]))
    refine lcF_ok rfl ?_
    rw [← range_map]
    have m : mx a b c i = if a[i] == b[i] then a[i] else c[i] := by simp [mx, h1, h2, h3]
    by_cases he : a[i] = b[i]
    · simp [tst, ev, evL, envAt, wipeS, wipeE, ST.put, ER.get, ix_tup a1, ix_tup b1, ix_tup d1, e1, truthy, ER.frz, m, he]
      rw [he] at e1
      exact .inr (by simpa using e1)
    · simp [tst, ev, evL, envAt, wipeS, wipeE, ST.put, ER.get, ix_tup a1, ix_tup b1, ix_tup d1, e1, truthy, ER.frz, m, he]
  · rintro r st ⟨rfl, rfl⟩
    have hr : (ranged 0 ns.length).length = ns.length := by simp [ranged]
    have hz : ns.length ≤ 16777216 := by omega
    simp [hr, hz, ER.get, DV.seq, retO, finals, envAt, okBack, bltO]
    simpa [tsz, mix, l1, Function.comp_def] using k
end Q.K06
end
section
set_option maxHeartbeats 4000000
namespace Q.K06
open PySem Q
/-! ### draws of the law -/
theorem T_row : T "_law_draw_row" = some f_law_draw_row := rfl
theorem ints_map (vs : List Int) (v : Int) : vs.map PV.int ++ [.int v] = (vs ++ [v]).map PV.int := by simp
def Below (ns vs : List Int) : Prop := ∀ (j : Nat) (s v : Int), ns[j]? = some s → vs[j]? = some v → 0 ≤ v ∧ v < s
theorem Below.snoc {ns vs : List Int} {s d : Int} (h : Below ns vs) (hs : ns[vs.length]? = some s) (h0 : 0 ≤ d) (h1 : d < s) : Below ns (vs ++ [d]) := fun j s' v e1 e2 => by
  by_cases hj : j < vs.length
  · rw [List.getElem?_append_left hj] at e2
    exact h j s' v e1 e2
  · have hj' : j = vs.length := by
      have := (List.getElem?_eq_some_iff.mp e2).1
      simp at this
      omega
    subst hj'
    rw [hs] at e1
    simp at e1 e2
    omega
def RowP (ns : List Int) (m : Nat) (g : List GI) (i : Nat) (acc : List PV) (st : ST) : Prop := ∃ vs ys, acc = vs.map PV.int ∧ vs.length = i ∧ i ≤ 8 ∧ Below ns vs ∧ BagOk (m + i) ys ∧ st = ⟨[some (.own (.lst ys)), some (.v (.tup (ns.map .int))), none], g⟩
theorem row_wp {n m : Nat} {ns : List Int} {xs : List PV} {g : List GI} {q : SV → List SV → List GI → Prop} {e : XV → List SV → List GI → Prop} (hs : SzOk ns) (hb : BagOk m xs) (hm : m ≤ 100000)
    (k : ∀ vs xs', FlOk ns vs → BagOk (m + 8) xs' → q (.v (tsz vs)) [.own (.lst xs'), .v (tsz ns)] g) : (callN T (n + 2) "_law_draw_row" [.own (.lst xs), .v (tsz ns)] g).wq q e := by
  refine call_wp T_row rfl rfl ?_
  have h8 := hs.2.1
  simp [f_law_draw_row, exs, ex, ev, evL, evI, envAt, tsz, ER.frz, itemsOf]
  refine map_wp (RowP ns m g) ?_ ⟨[], xs, rfl, rfl, by omega, fun j s v _ h => by simp at h, hb, rfl⟩ ?_
  · rintro i x acc st hx ⟨vs, ys, rfl, rfl, hi, hv, hy, rfl⟩
    obtain ⟨s, hs', rfl⟩ := map_at hx
    obtain ⟨s1, s2⟩ := hs.2.2 s (List.mem_of_getElem? hs')
    have hlt := (List.getElem?_eq_some_iff.mp hs').1
    refine lcF_ok rfl ?_
    simp [tst, ev, evL, envAt, wipeS, wipeE, ST.put, svAll, ER.sv, slotsOf]
    refine take_wp (by omega) (by omega) hy (by omega) fun d ys' d0 d1 hy' => ?_
    simp [back, SV.er, ER.frz, wipeS, wipeE, ST.put]
    exact ⟨vs ++ [d], ys', by simp, by simp, by omega, hv.snoc hs' d0 d1, hy', rfl⟩
  · rintro r st ⟨vs, ys, rfl, hl, hi, hv, hy, rfl⟩
    rw [List.length_map] at hl hy
    have hz : vs.length ≤ line := by unfold line; omega
    simp [hz, ER.get, DV.seq, retO, finals, envAt, okBack, bltO]
    exact k vs ys ⟨hl, hv⟩ (hy.up (by omega))
def NearP (ns row : List Int) (m : Nat) (d : Int) (g : List GI) (i : Nat) (st : ST) : Prop := ∃ vs ys z, vs.length = i ∧ i ≤ 8 ∧ Below ns vs ∧ BagOk (m + 1 + 2 * i) ys ∧
  st = ⟨[some (.own (.lst ys)), some (.v (.tup (ns.map .int))), some (.v (.tup (row.map .int))), some (.v (.int (1 + d))), some (.own (.lst (vs.map .int))), z], g⟩
theorem T_near : T "_law_near" = some f_law_near := rfl
theorem near_wp {n m : Nat} {ns row : List Int} {xs : List PV} {g : List GI} {q : SV → List SV → List GI → Prop} {e : XV → List SV → List GI → Prop} (hs : SzOk ns) (hr : FlOk ns row) (hb : BagOk m xs) (hm : m ≤ 100000)
    (k : ∀ vs xs', FlOk ns vs → BagOk (m + 17) xs' → q (.v (tsz vs)) [.own (.lst xs'), .v (tsz ns), .v (tsz row)] g) : (callN T (n + 2) "_law_near" [.own (.lst xs), .v (tsz ns), .v (tsz row)] g).wq q e := by
  refine call_wp T_near rfl rfl ?_
  have h8 := hs.2.1
  have c1 : (-4611686018427387904 : Int) ≤ ns.length := by omega
  have c2 : (ns.length : Int) ≤ 16777216 := by omega
  simp [f_law_near, exs, ex, ev, evL, envAt, svAll, ER.sv, slotsOf, tsz]
  refine take_wp (by omega) (by omega) hb (by omega) fun d xs1 d0 d1 hb1 => ?_
  simp [back, SV.er, ER.get, binO, binI, store, Ctx.ro, ST.put, exs, ex, ev, evL, evI, envAt, frzL, line, bltO, DV.seq, rngO, big, c1, c2]
  refine for_wp (NearP ns row m d g) ?_ ⟨[], xs1, none, rfl, by omega, fun j s v _ h => by simp at h, hb1, rfl⟩ ?_
  · rintro i x st hx ⟨vs, ys, z, rfl, hi, hv, hy, rfl⟩
    obtain ⟨hi', rfl⟩ := ranged_at hx
    rw [Int.zero_add]
    have hrl : vs.length < row.length := by have := hr.1; omega
    have n0 : ns[vs.length]? = some ns[vs.length] := by simp [hi']
    have n1 : (ns.map PV.int)[vs.length]? = some (.int ns[vs.length]) := by simp [hi']
    have r1 : (row.map PV.int)[vs.length]? = some (.int row[vs.length]) := by simp [hrl]
    obtain ⟨s1, s2⟩ := hs.2.2 ns[vs.length] (List.getElem_mem _)
    simp [stTg, Ctx.ro, ST.put, exs, ex, tst, ev, evL, envAt, svAll, ER.sv, slotsOf]
    refine take_wp (by omega) (by omega) hy (by omega) fun t ys1 t0 t1 hy1 => ?_
    by_cases ht : t < 1 + d
    · simp [back, SV.er, ER.get, cmpO, ltI, truthy, ht, ST.put, exs, ex, ev, evL, envAt, ix_tup n1, ownsL, svAll, ER.sv, slotsOf]
      refine take_wp (by omega) (by omega) hy1 (by omega) fun w ys2 w0 w1 hy2 => ?_
      simp [back, SV.er, ST.put, frzL, ER.frz, envAt, mutO, exs, show vs.length < line by unfold line; omega]
      exact ⟨vs ++ [w], ys2, some (.v (.int vs.length)), by simp, by omega, hv.snoc n0 w0 w1, hy2.up (by omega), by simp⟩
    · simp [back, SV.er, ER.get, cmpO, ltI, truthy, ht, ST.put, exs, ex, ev, evL, envAt, ix_tup r1, ownsL, frzL, ER.frz, mutO, show vs.length < line by unfold line; omega]
      obtain ⟨w0, w1⟩ := hr.2 vs.length ns[vs.length] row[vs.length] (by simp [hi']) (by simp [hrl])
      exact ⟨vs ++ [row[vs.length]], ys1, some (.v (.int vs.length)), by simp, by omega, hv.snoc n0 w0 w1, hy1.up (by omega), by simp⟩
  · rintro st ⟨vs, ys, z, hl, hi, hv, hy, rfl⟩
    have hrr : (ranged 0 ns.length).length = ns.length := by simp [ranged]
    rw [hrr] at hl hy
    simp [exs, ex, ev, evL, envAt, ER.get, bltO, DV.seq, retO, finals, okBack]
    exact k vs ys ⟨hl, hv⟩ (hy.up (by omega))
theorem T_partial : T "_law_draw_partial" = some f_law_draw_partial := rfl
def PBelow (ns : List Int) (os : List (Option Int)) : Prop := ∀ (k : Nat) (s i : Int), ns[k]? = some s → os[k]? = some (some i) → 0 ≤ i ∧ i < s
theorem PBelow.snoc {ns : List Int} {os : List (Option Int)} {o : Option Int} (h : PBelow ns os) (ho : ∀ s i, ns[os.length]? = some s → o = some i → 0 ≤ i ∧ i < s) : PBelow ns (os ++ [o]) := fun j s i e1 e2 => by
  by_cases hj : j < os.length
  · rw [List.getElem?_append_left hj] at e2
    exact h j s i e1 e2
  · have hj' : j = os.length := by
      have := (List.getElem?_eq_some_iff.mp e2).1
      simp at this
      omega
    subst hj'
    simp at e2
    exact ho s i e1 e2
def PartP (ns : List Int) (m : Nat) (way : Int) (g : List GI) (i : Nat) (st : ST) : Prop := ∃ os ys z, os.length = i ∧ i ≤ 8 ∧ PBelow ns os ∧ BagOk (m + 1 + 2 * i) ys ∧
  st = ⟨[some (.own (.lst ys)), some (.v (.tup (ns.map .int))), some (.v (.int way)), some (.own (.lst (os.map po))), z], g⟩
theorem partial_wp {n m : Nat} {ns : List Int} {xs : List PV} {g : List GI} {q : SV → List SV → List GI → Prop} {e : XV → List SV → List GI → Prop} (hs : SzOk ns) (hb : BagOk m xs) (hm : m ≤ 100000)
    (k : ∀ os xs', PtOk ns os → BagOk (m + 17) xs' → q (.v (tpt os)) [.own (.lst xs'), .v (tsz ns)] g) : (callN T (n + 2) "_law_draw_partial" [.own (.lst xs), .v (tsz ns)] g).wq q e := by
  refine call_wp T_partial rfl rfl ?_
  have h8 := hs.2.1
  simp [f_law_draw_partial, exs, ex, ev, evL, envAt, svAll, ER.sv, slotsOf, tsz]
  refine take_wp (by omega) (by omega) hb (by omega) fun d xs1 d0 d1 hb1 => ?_
  simp [back, SV.er, ER.get, store, Ctx.ro, ST.put, exs, ex, ev, evL, evI, envAt, frzL, line, ER.frz, itemsOf]
  refine for_wp (PartP ns m d g) ?_ ⟨[], xs1, none, rfl, by omega, fun j s v _ h => by simp at h, hb1, rfl⟩ ?_
  · rintro i x st hx ⟨os, ys, z, rfl, hi, hv, hy, rfl⟩
    obtain ⟨s, hs', rfl⟩ := map_at hx
    obtain ⟨s1, s2⟩ := hs.2.2 s (List.mem_of_getElem? hs')
    have hlt := (List.getElem?_eq_some_iff.mp hs').1
    have e0 := eq_int (a := d) (b := 0) (by omega) (by decide)
    have hz : os.length < line := by unfold line; omega
    simp [stTg, Ctx.ro, ST.put, exs, ex, tst, ev, evL, envAt, ER.get]
    by_cases hd : d = 0
    · subst hd
      simp [e0, truthy, exs, ex, ev, evL, ownsL, envAt, frzL, ER.frz, mutO, hz, ST.put]
      exact ⟨os ++ [none], ys, some (.v (.int s)), by simp, by omega, hv.snoc (fun _ _ _ h => by cases h), hy.up (by omega), by simp [po]⟩
    · simp [e0, hd, truthy, tst, ev, evL, envAt, svAll, ER.sv, slotsOf]
      refine take_wp (by omega) (by omega) hy (by omega) fun t ys1 t0 t1 hy1 => ?_
      by_cases ht : t < d - 1
      · simp [back, SV.er, ER.get, ST.put, ev, evL, envAt, binO, binI, cmpO, ltI, ht, truthy, exs, ex, ownsL, frzL, ER.frz, mutO, hz]
        exact ⟨os ++ [none], ys1, some (.v (.int s)), by simp, by omega, hv.snoc (fun _ _ _ h => by cases h), hy1.up (by omega), by simp [po]⟩
      · simp [back, SV.er, ER.get, ST.put, ev, evL, envAt, binO, binI, cmpO, ltI, ht, truthy, exs, ex, ownsL, svAll, ER.sv, slotsOf]
        refine take_wp (by omega) (by omega) hy1 (by omega) fun w ys2 w0 w1 hy2 => ?_
        simp [back, SV.er, ST.put, frzL, ER.frz, envAt, mutO, exs, hz]
        exact ⟨os ++ [some w], ys2, some (.v (.int s)), by simp, by omega, hv.snoc (fun s' i h1 h2 => by rw [hs'] at h1; cases h1; cases h2; exact ⟨w0, w1⟩), hy2.up (by omega), by simp [po]⟩
  · rintro st ⟨os, ys, z, hl, hi, hv, hy, rfl⟩
    rw [List.length_map] at hl hy
    simp [exs, ex, ev, evL, envAt, ER.get, bltO, DV.seq, retO, finals, okBack]
    exact k os ys ⟨hl, hv⟩ (hy.up (by omega))
theorem T_sizes : T "_law_draw_sizes" = some f_law_draw_sizes := rfl
theorem flat_one {α : Type} (a : α) : ∀ n : Nat, (List.replicate n [a]).flatten = List.replicate n a
  | 0 => rfl
  | n + 1 => by rw [List.replicate_succ, List.flatten_cons, flat_one a n, List.replicate_succ]; rfl
def SizeP (m many : Nat) (way : Int) (g : List GI) (i : Nat) (acc : List PV) (st : ST) : Prop := ∃ (ns : List Int) (ys : List PV), acc = ns.map PV.int ∧ ns.length = i ∧ (∀ s ∈ ns, 1 ≤ s ∧ s ≤ 5) ∧ BagOk (m + 2 + i) ys ∧
  st = ⟨[some (.own (.lst ys)), some (.v (.int 8)), some (.v (.int 5)), some (.v (.int way)), some (.v (.int many)), none], g⟩
theorem sizes_rep {k : Nat} {v : Int} (h1 : 1 ≤ k) (h2 : k ≤ 8) (h3 : 1 ≤ v) (h4 : v ≤ 5) : SzOk (List.replicate k v) := by
  refine ⟨by simpa using h1, by simpa using h2, fun s hs => ?_⟩
  rw [List.mem_replicate] at hs
  rw [hs.2]
  exact ⟨h3, h4⟩
def sz_t : SL := SL.drop 3 f_law_draw_sizes.body
theorem sizes_wp {n m : Nat} {xs : List PV} {g : List GI} {q : SV → List SV → List GI → Prop} {e : XV → List SV → List GI → Prop} (hb : BagOk m xs) (hm : m ≤ 100000)
    (k : ∀ ns xs', SzOk ns → BagOk (m + 10) xs' → q (.v (tsz ns)) [.own (.lst xs'), .v (.int 8), .v (.int 5)] g) : (callN T (n + 2) "_law_draw_sizes" [.own (.lst xs), .v (.int 8), .v (.int 5)] g).wq q e := by
  refine call_wp T_sizes rfl rfl ?_
  change (exs ⟨callN T (n + 1), 3, [], whileFuel⟩ (.cons _ (.cons _ (.cons _ sz_t))) ⟨[some (.own (.lst xs)), some (.v (.int 8)), some (.v (.int 5)), none, none, none], g⟩).wq _
  simp [exs, ex, ev, evL, envAt, svAll, ER.sv, slotsOf]
  refine take_wp (by omega) (by omega) hb (by omega) fun d xs1 d0 d1 hb1 => ?_
  have e0 := eq_int (a := d) (b := 0) (by omega) (by decide)
  have e1 := eq_int (a := d) (b := 1) (by omega) (by decide)
  have e2 := eq_int (a := d) (b := 2) (by omega) (by decide)
  by_cases h0 : d = 0
  · subst h0
    simp [back, SV.er, ER.get, store, Ctx.ro, ST.put, exs, ex, tst, ev, evL, envAt, e0, truthy, frzL, ER.frz, binO, mulO, line, flat_one, retO, finals, okBack]
    have := k (List.replicate 8 5) xs1 (sizes_rep (by decide) (by decide) (by decide) (by decide)) (hb1.up (by omega))
    simpa [tsz, flat_one, f_law_draw_sizes] using this
  · -- how many
    have rest : ∀ (many : Nat) (ys : List PV), 1 ≤ many → many ≤ 8 → BagOk (m + 2) ys → (exs ⟨callN T (n + 1), 3, [], whileFuel⟩ sz_t
        ⟨[some (.own (.lst ys)), some (.v (.int 8)), some (.v (.int 5)), some (.v (.int d)), some (.v (.int many)), none], g⟩).wq ⟨fun st => (retO f_law_draw_sizes [.own (.lst xs), .v (.int 8), .v (.int 5)] (.v .non) st).wq q e, fun r st => (retO f_law_draw_sizes [.own (.lst xs), .v (.int 8), .v (.int 5)] r st).wq q e, fun _ => False, fun _ => False, fun x st => (match finals f_law_draw_sizes.re st.env 0 [.own (.lst xs), .v (.int 8), .v (.int 5)] with | some cs => COut.exc x cs st.g | none => .bad).wq q e⟩ := by
      intro many ys m1 m8 hy
      have c1 : (-4611686018427387904 : Int) ≤ many := by omega
      have c2 : (many : Int) ≤ 16777216 := by omega
      have c3 : (1 : Int) ≤ many := by omega
      have c4 : (many : Int) ≤ 1000 := by omega
      by_cases h2 : d = 2
      · subst h2
        simp [sz_t, SL.drop, f_law_draw_sizes, exs, ex, tst, ev, evL, envAt, ER.get, e2, truthy, svAll, ER.sv, slotsOf]
        refine take_wp (by omega) (by omega) hy (by omega) fun t ys1 t0 t1 hy1 => ?_
        simp [back, SV.er, ER.get, ST.put, ev, envAt, binO, binI, frzL, ER.frz, line, mulO, c3, c4, flat_one, f_law_draw_sizes, retO, finals, okBack]
        have := k (List.replicate many (1 + t)) ys1 (sizes_rep m1 m8 (by omega) (by omega)) (hy1.up (by omega))
        simpa [tsz] using this
      · simp [sz_t, SL.drop, f_law_draw_sizes, exs, ex, tst, ev, evL, evI, envAt, ER.get, e2, h2, truthy, rngO, big, line, c1, c2]
        refine map_wp (SizeP m many d g) ?_ ⟨[], ys, rfl, rfl, fun s hs => (by cases hs), hy, rfl⟩ ?_
        · rintro i x acc st hx ⟨ns, zs, rfl, rfl, hv, hz, rfl⟩
          obtain ⟨hi, rfl⟩ := ranged_at hx
          refine lcF_ok rfl ?_
          simp [tst, ev, evL, envAt, wipeS, wipeE, ST.put, svAll, ER.sv, slotsOf]
          refine take_wp (by omega) (by omega) hz (by omega) fun t ys' t0 t1 hy' => ?_
          simp [back, SV.er, ER.get, ER.frz, wipeS, wipeE, ST.put, binO, binI]
          refine ⟨ns ++ [1 + t], ys', by simp, by simp, fun s hs => ?_, hy', rfl⟩
          rcases List.mem_append.mp hs with hs | hs
          · exact hv s hs
          · simp at hs
            omega
        · rintro r st ⟨ns, zs, rfl, hl, hv, hz, rfl⟩
          have hrr : (ranged 0 many).length = many := by simp [ranged]
          rw [hrr] at hl hz
          have hz' : ns.length ≤ 16777216 := by omega
          simp [hz', ER.get, DV.seq, f_law_draw_sizes, retO, finals, envAt, okBack, bltO]
          exact k ns zs ⟨by omega, by omega, hv⟩ (hz.up (by omega))
    by_cases h1 : d = 1
    · have := rest 8 xs1 (by decide) (by decide) (hb1.up (by omega))
      subst h1
      simp [back, SV.er, ER.get, store, Ctx.ro, ST.put, exs, ex, tst, ev, evL, envAt, e0, e1, truthy]
      exact this
    · simp [back, SV.er, ER.get, store, Ctx.ro, ST.put, exs, ex, tst, ev, evL, envAt, e0, h0, e1, h1, truthy, svAll, ER.sv, slotsOf]
      refine take_wp (by omega) (by omega) hb1 (by omega) fun t ys t0 t1 hy => ?_
      have := rest (1 + t).toNat ys (by omega) (by omega) hy
      have e3 : (((1 + t).toNat : Nat) : Int) = 1 + t := by omega
      rw [e3] at this
      simp [back, SV.er, ER.get, ST.put, binO, binI, store, Ctx.ro]
      exact this
end Q.K06
end
section
set_option maxHeartbeats 8000000
namespace Q.K06
open PySem Q
def forB : SL → SL
  | .cons (.for_ _ _ b) _ => b
  | _ => .nil
def law_b : SL := forB f_law.body
def lw8 : SL := SL.drop 8 law_b
def In8 : SL := forB lw8
def Rw : SL := forB In8
def lw9 : SL := SL.drop 9 law_b
def Mx : SL := forB lw9
def C0 : Ctx := ⟨callN T 29, 1, [], whileFuel⟩
@[simp] theorem C0_call : C0.call = callN T 29 := rfl
@[simp] theorem C0_ro (i : Nat) : C0.ro i = decide (i < 1) := by simp [C0, Ctx.ro]
@[simp] theorem C0_fuel : C0.fuel = whileFuel := rfl
structure Fx where
  ss : List Int
  cell : Int
  bag : List PV
  ns : List Int
  a : List Int
  b : List Int
  c : List Int
  mask : List (Option Int)
  holey : List (Option Int)
  at_ : Int
  bent : List (Option Int)
abbrev EE (f : Fx) (k so row due x y z : Option SV) : ST := ⟨[some (.v (.scr f.ss)), some (.v (.int f.cell)), some (.own (.lst f.bag)), some (.v (tsz f.ns)), some (.v (tsz f.a)), some (.v (tsz f.b)), some (.v (tsz f.c)), some (.v (tpt f.mask)), some (.v (tpt f.holey)), k, some (.v (.int f.at_)), some (.v (tpt f.bent)), so, row, due, x, y, z], []⟩
theorem filt_all (f : Nat → Bool) (l : List Nat) : (l.filter fun k => !f k).isEmpty = l.all f := by
  induction l with
  | nil => rfl
  | cons x r ih => cases h : f x <;> simp [List.filter_cons, h, ih]
theorem eq_nil {xs : List PV} (h : xs.all atom = true) : cmpO .Eq (.d (.lst xs)) (.d (.lst [])) = some xs.isEmpty := by
  have f1 := (flat_fit h).2
  have f2 := (flat_fit (xs := []) rfl).2
  simp [cmpO, eqO, DV.pv, f1, f2, PV.eqv, PV.toD]
  cases xs with
  | nil => simp [PV.toDs, PyData.eqv, PyData.eqvAll]
  | cons x r => simp [PV.toDs, PyData.eqv, PyData.eqvAll]
def DueP (f : Fx) (os : List (Option Int)) (vs : List Int) (due x y z : Option SV) (i : Nat) (acc : List PV) (st : ST) : Prop :=
  ∃ k, acc = ((List.range i).filter fun k => !okAt os vs k).map (fun k : Nat => PV.int k) ∧ st = EE f k (some (.v (tpt os))) (some (.v (tsz vs))) due x y z
theorem rw_wp {f : Fx} {os : List (Option Int)} {vs : List Int} {k due x y z : Option SV} {p : Post} (hs : SzOk f.ns) (hv : FlOk f.ns vs) (hp : PtOk f.ns os) (h : ∀ k due, p.nx (EE f k (some (.v (tpt os))) (some (.v (tsz vs))) due x y z)) :
    (exs C0 Rw (EE f k (some (.v (tpt os))) (some (.v (tsz vs))) due x y z)).wq p := by
  have hl := hv.1
  have hl2 := hp.1
  have h8 := hs.2.1
  have c1 : (-4611686018427387904 : Int) ≤ f.ns.length := by omega
  have c2 : (f.ns.length : Int) ≤ 16777216 := by omega
  simp [Rw, In8, lw8, law_b, f_law, forB, SL.drop, exs, ex, ev, evL, evI, envAt, ER.get, tsz, tpt, bltO, DV.seq, rngO, big, line, c1, c2]
  refine map_wp (DueP f os vs due x y z) ?_ ⟨k, rfl, rfl⟩ ?_
  · rintro i w acc st hx ⟨kk, rfl, rfl⟩
    obtain ⟨hi, rfl⟩ := ranged_at hx
    rw [Int.zero_add]
    have ho' : i < os.length := by omega
    have hv' : i < vs.length := by omega
    have o1 : (os.map po)[i]? = some (po os[i]) := by simp [ho']
    have v1 : (vs.map PV.int)[i]? = some (.int vs[i]) := by simp [hv']
    refine lcF_ok rfl ?_
    have rs : (List.range (i + 1)).filter (fun k => !okAt os vs k) = (List.range i).filter (fun k => !okAt os vs k) ++ if okAt os vs i then [] else [i] := by
      rw [List.range_succ, List.filter_append]
      congr 1
      cases h : okAt os vs i <;> simp [List.filter_cons, h]
    cases ho : os[i] with
    | none =>
      rw [ho] at o1
      have ok : okAt os vs i = true := by simp [okAt, ho', ho]
      simp [tst, ev, envAt, wipeS, wipeE, ST.put, ER.get, tsz, tpt, ix_tup o1, po, truthy, show cmpO .IsNot (.v .non) (.v .non) = some false from rfl]
      exact ⟨none, by rw [rs, ok]; simp, rfl⟩
    | some v =>
      rw [ho] at o1
      have ok : okAt os vs i = (v == vs[i]) := by simp [okAt, ho', hv', ho]
      have e1 := ne_int (small_pt hs hp (k := i) (i := v) (by simp [ho', ho])) (small_fl hs hv (k := i) (i := vs[i]) (by simp [hv']))
      by_cases he : v = vs[i]
      · rw [he] at e1 o1 ok
        simp at e1
        simp [tst, ev, envAt, wipeS, wipeE, ST.put, ER.get, tsz, tpt, ix_tup o1, ix_tup v1, po, truthy, e1, show ∀ w : Int, cmpO .IsNot (.v (.int w)) (.v .non) = some true from fun _ => rfl]
        exact ⟨none, by rw [rs, ok]; simp, rfl⟩
      · have he' : (v == vs[i]) = false := by simpa using he
        rw [he'] at e1 ok
        simp [tst, ev, envAt, wipeS, wipeE, ST.put, ER.get, ER.frz, tsz, tpt, ix_tup o1, ix_tup v1, po, truthy, e1, show ∀ w : Int, cmpO .IsNot (.v (.int w)) (.v .non) = some true from fun _ => rfl]
        exact ⟨none, by rw [rs, ok]; simp, rfl⟩
  · rintro r st ⟨kk, rfl, rfl⟩
    have hr : (ranged 0 f.ns.length).length = f.ns.length := by simp [ranged]
    rw [hr]
    have at_ : (((List.range f.ns.length).filter fun k => !okAt os vs k).map (fun k : Nat => PV.int k)).all atom = true := by
      rw [List.all_map, List.all_eq_true]
      intro j hj
      have := List.mem_range.mp (List.mem_filter.mp hj).1
      simp [atom]
      omega
    have ln : (((List.range f.ns.length).filter fun k => !okAt os vs k).map (fun k : Nat => PV.int k)).length ≤ 16777216 := by
      rw [List.length_map]
      have := List.length_filter_le (fun k => !okAt os vs k) (List.range f.ns.length)
      simp at this
      omega
    have e0 := eq_nil at_
    have em : (((List.range f.ns.length).filter fun k => !okAt os vs k).map (fun k : Nat => PV.int k)).isEmpty = agr os vs := by
      rw [List.isEmpty_map, filt_all, agr, hl2]
    rw [em] at e0
    generalize (((List.range f.ns.length).filter fun k => !okAt os vs k).map (fun k : Nat => PV.int k)) = due' at e0 ln
    have e9 : ∀ b : Bool, cmpO .NotEq (.v (.str (PyData.bool b).shown)) (.v (.str (PyData.bool b).shown)) = some false := fun b => by rw [ne_str]; simp
    generalize hB : agr os vs = B at e0
    cases B
    all_goals
      simp [ln, frzL, ER.get, e0, store, ST.put, exs, ex, tst, ev, evL, envAt, svAll, ER.sv, slotsOf]
      refine agrees_wp hs hv hp ?_
      rw [hB]
      simp [back, SV.er, ER.get, repr_bl, ev, evL, envAt, e9, truthy, exs, ex, tst, pickA, pickIx, svAll, ER.sv, slotsOf]
      refine agrees_wp hs hv hp ?_
      rw [hB]
      simp [back, SV.er, ER.get, repr_bl, ev, evL, envAt, e9, truthy, exs, ex, tst]
      exact h _ _
end Q.K06
end
section
set_option maxHeartbeats 8000000
namespace Q.K06
open PySem Q
theorem bltO_tuple (x : DV) : bltO .tuple [x] = x.seq.map fun xs => .v (.tup xs) := by cases x <;> rfl
structure FxOk (f : Fx) : Prop where
  hs : SzOk f.ns
  ha : FlOk f.ns f.a
  hb : FlOk f.ns f.b
  hc : FlOk f.ns f.c
  hm : PtOk f.ns f.mask
  hh : PtOk f.ns f.holey
  ht : PtOk f.ns f.bent
def RowP' (f : Fx) (so x y z : Option SV) (i : Nat) (st : ST) : Prop := ∃ k row due, st = EE f k so row due x y z
def SomeP (f : Fx) (x y z : Option SV) (i : Nat) (st : ST) : Prop := ∃ k so row due, st = EE f k so row due x y z
theorem in8_wp {f : Fx} {os : List (Option Int)} {k row due x y z : Option SV} {p : Post} (ok : FxOk f) (hp : PtOk f.ns os) (h : ∀ k row due, p.nx (EE f k (some (.v (tpt os))) row due x y z)) : (exs C0 In8 (EE f k (some (.v (tpt os))) row due x y z)).wq p := by
  change (exs C0 (.cons (.for_ (.v 13) (.seq (.lst (.cons (.var 4) (.cons (.var 5) .nil)))) Rw) .nil) _).wq p
  simp [exs, ex, ev, evL, evI, envAt, frzL, ER.frz, line, itemsOf]
  refine for_wp (RowP' f (some (.v (tpt os))) x y z) ?_ ⟨k, row, due, rfl⟩ ?_
  · rintro i v st hx ⟨k, row, due, rfl⟩
    have hv : ∃ vs, v = tsz vs ∧ FlOk f.ns vs := by
      have := List.mem_of_getElem? hx
      simp at this
      rcases this with rfl | rfl
      · exact ⟨_, rfl, ok.ha⟩
      · exact ⟨_, rfl, ok.hb⟩
    obtain ⟨vs, rfl, hv⟩ := hv
    simp [stTg, ST.put]
    exact rw_wp ok.hs hv hp fun k due => ⟨k, _, due, rfl⟩
  · rintro st ⟨k, row, due, rfl⟩
    exact h k row due
theorem lw8_wp {f : Fx} {k so row due x y z : Option SV} {p : Post} (ok : FxOk f) (h : ∀ k so row due, (exs C0 lw9 (EE f k so row due x y z)).wq p) : (exs C0 lw8 (EE f k so row due x y z)).wq p := by
  change (exs C0 (.cons (.for_ (.v 12) (.seq (.lst (.cons (.var 8) (.cons (.var 11) (.cons (.var 7) .nil))))) In8) lw9) _).wq p
  simp [exs, ex, ev, evL, evI, envAt, frzL, ER.frz, line, itemsOf]
  refine for_wp (SomeP f x y z) ?_ ⟨k, so, row, due, rfl⟩ ?_
  · rintro i v st hx ⟨k, so, row, due, rfl⟩
    have hv : ∃ os, v = tpt os ∧ PtOk f.ns os := by
      have := List.mem_of_getElem? hx
      simp at this
      rcases this with rfl | rfl | rfl
      · exact ⟨_, rfl, ok.hh⟩
      · exact ⟨_, rfl, ok.ht⟩
      · exact ⟨_, rfl, ok.hm⟩
    obtain ⟨os, rfl, hv⟩ := hv
    simp [stTg, ST.put]
    exact in8_wp ok hv fun k row due => ⟨k, _, row, due, rfl⟩
  · rintro st ⟨k, so, row, due, rfl⟩
    exact h k so row due
/-! the mixes -/
def MixP (f : Fx) (a b c : List Int) (so row : Option SV) (i : Nat) (st : ST) : Prop := ∃ k, st = EE f k so row (some (.own (.lst ((List.range i).map fun k => .int (mx a b c k))))) (some (.v (tsz a))) (some (.v (tsz b))) (some (.v (tsz c)))
theorem mx_small {ns a b c : List Int} {k : Nat} (hs : SzOk ns) (ha : FlOk ns a) (hb : FlOk ns b) (hc : FlOk ns c) : (mx a b c k).natAbs < 10 ^ 12 := by
  unfold mx
  split
  · rename_i x y z h1 h2 h3
    split
    · exact small_fl hs ha h1
    · exact small_fl hs hc h3
  · decide
theorem mx_wp {f : Fx} {a b c : List Int} {k so row due : Option SV} {p : Post} (hs : SzOk f.ns) (ha : FlOk f.ns a) (hb : FlOk f.ns b) (hc : FlOk f.ns c) (h : ∀ k due, p.nx (EE f k so row due (some (.v (tsz a))) (some (.v (tsz b))) (some (.v (tsz c))))) :
    (exs C0 Mx (EE f k so row due (some (.v (tsz a))) (some (.v (tsz b))) (some (.v (tsz c))))).wq p := by
  have h8 := hs.2.1
  have l1 := ha.1
  have l2 := hb.1
  have l3 := hc.1
  have c1 : (-4611686018427387904 : Int) ≤ f.ns.length := by omega
  have c2 : (f.ns.length : Int) ≤ 16777216 := by omega
  simp [Mx, lw9, law_b, f_law, forB, SL.drop, exs, ex, ev, evL, evI, envAt, ER.get, tsz, tpt, bltO, DV.seq, rngO, big, line, c1, c2, frzL, store, ST.put]
  refine for_wp (MixP f a b c so row) ?_ ⟨k, rfl⟩ ?_
  · rintro i w st hx ⟨kk, rfl⟩
    obtain ⟨hi, rfl⟩ := ranged_at hx
    rw [Int.zero_add]
    have h1 : i < a.length := by omega
    have h2 : i < b.length := by omega
    have h3 : i < c.length := by omega
    have a1 : (a.map PV.int)[i]? = some (.int a[i]) := by simp [h1]
    have b1 : (b.map PV.int)[i]? = some (.int b[i]) := by simp [h2]
    have d1 : (c.map PV.int)[i]? = some (.int c[i]) := by simp [h3]
    have e1 := eq_int (small_fl hs ha (k := i) (i := a[i]) (by simp [h1])) (small_fl hs hb (k := i) (i := b[i]) (by simp [h2]))
    have m : mx a b c i = if a[i] == b[i] then a[i] else c[i] := by simp [mx, h1, h2, h3]
    by_cases he : a[i] = b[i]
    · rw [he] at e1 m a1
      simp at e1 m
      simp [stTg, exs, ex, tst, ev, evL, envAt, ST.put, ownsL, ER.get, tsz, ix_tup a1, ix_tup b1, ix_tup d1, e1, truthy, frzL, ER.frz, mutO, show i < 16777216 by omega, line]
      exact ⟨some (.v (.int i)), by rw [← range_map, m]; rfl⟩
    · have he' : (a[i] == b[i]) = false := by simpa using he
      rw [he'] at e1 m
      simp at m
      simp [stTg, exs, ex, tst, ev, evL, envAt, ST.put, ownsL, ER.get, tsz, ix_tup a1, ix_tup b1, ix_tup d1, e1, truthy, frzL, ER.frz, mutO, show i < 16777216 by omega, line]
      exact ⟨some (.v (.int i)), by rw [← range_map, m]; rfl⟩
  · rintro st ⟨kk, rfl⟩
    have hr : (ranged 0 f.ns.length).length = f.ns.length := by simp [ranged]
    rw [hr, ← l1]
    have at_ : ((mix a b c).map PV.int).all atom = true := by
      rw [List.all_map, List.all_eq_true]
      intro v hv
      unfold mix at hv
      obtain ⟨j, _, rfl⟩ := List.mem_map.mp hv
      simpa [atom] using mx_small hs ha hb hc
    have hlen : ((mix a b c).map PV.int).length ≤ 1000 := by simp [mix]; omega
    have rp := repr_tup at_ hlen
    have em : ((List.range a.length).map fun k => PV.int (mx a b c k)) = (mix a b c).map PV.int := by simp [mix, Function.comp_def]
    rw [em]
    have e9 : ∀ s : Str, cmpO .NotEq (.v (.str s)) (.v (.str s)) = some false := fun s => by rw [ne_str]; simp
    simp [exs, ex, tst, ev, evL, envAt, pickA, pickIx, svAll, ER.sv, slotsOf]
    refine mixed_wp hs ha hb hc ?_
    simp [back, SV.er, ER.get, tsz, rp, ev, evL, envAt, bltO_tuple, DV.seq, e9, truthy, exs, ex, tst, pickA, pickIx, svAll, ER.sv, slotsOf]
    refine mixed_wp hs ha hb hc ?_
    simp [back, SV.er, ER.get, tsz, rp, ev, evL, envAt, bltO_tuple, DV.seq, e9, truthy, exs, ex, tst]
    exact h _ _
end Q.K06
end
section
set_option maxHeartbeats 8000000
namespace Q.K06
open PySem Q
theorem lw9_wp {f : Fx} {k so row due x y z : Option SV} {p : Post} (ok : FxOk f) (h : ∀ k due x y z, p.nx (EE f k so row due x y z)) : (exs C0 lw9 (EE f k so row due x y z)).wq p := by
  change (exs C0 (.cons (.for_ (.t [15, 16, 17]) (.seq (.lst (.cons (.tup (.cons (.var 4) (.cons (.var 5) (.cons (.var 6) .nil)))) (.cons (.tup (.cons (.var 5) (.cons (.var 6) (.cons (.var 4) .nil)))) (.cons (.tup (.cons (.var 6) (.cons (.var 4) (.cons (.var 5) .nil)))) (.cons (.tup (.cons (.var 4) (.cons (.var 4) (.cons (.var 5) .nil)))) (.cons (.tup (.cons (.var 4) (.cons (.var 5) (.cons (.var 4) .nil)))) (.cons (.tup (.cons (.var 5) (.cons (.var 4) (.cons (.var 4) .nil)))) .nil)))))))) Mx) .nil) _).wq p
  simp [exs, ex, ev, evL, evI, envAt, frzL, ER.frz, line, itemsOf]
  refine for_wp (fun i st => ∃ k due x y z, st = EE f k so row due x y z) ?_ ⟨k, due, x, y, z, rfl⟩ ?_
  · rintro i v st hx ⟨k, due, x, y, z, rfl⟩
    have hv : ∃ a b c, v = .tup [tsz a, tsz b, tsz c] ∧ FlOk f.ns a ∧ FlOk f.ns b ∧ FlOk f.ns c := by
      have := List.mem_of_getElem? hx
      simp at this
      rcases this with rfl | rfl | rfl | rfl | rfl | rfl
      · exact ⟨_, _, _, rfl, ok.ha, ok.hb, ok.hc⟩
      · exact ⟨_, _, _, rfl, ok.hb, ok.hc, ok.ha⟩
      · exact ⟨_, _, _, rfl, ok.hc, ok.ha, ok.hb⟩
      · exact ⟨_, _, _, rfl, ok.ha, ok.ha, ok.hb⟩
      · exact ⟨_, _, _, rfl, ok.ha, ok.hb, ok.ha⟩
      · exact ⟨_, _, _, rfl, ok.hb, ok.ha, ok.ha⟩
    obtain ⟨a, b, c, rfl, ha, hb, hc⟩ := hv
    simp [stTg, roAny, putAll, ST.put]
    exact mx_wp ok.hs ha hb hc fun k due => ⟨k, due, _, _, _, rfl⟩
  · rintro st ⟨k, due, x, y, z, rfl⟩
    exact h k due x y z
theorem cut_lo {α : Type} {xs : List α} {j : Nat} (h : j ≤ xs.length) : cut xs none (some (j : Int)) = xs.take j := by
  have e1 : HT.sIx xs.length xs.length (some (j : Int)) = min j xs.length := HT.sIx_nat _ _ _
  have e2 : HT.sIx xs.length 0 none = 0 := rfl
  unfold cut
  rw [e1, e2, Nat.min_eq_left h, Nat.sub_zero, List.drop_zero]
theorem cut_hi {α : Type} {xs : List α} {j : Nat} (h : j ≤ xs.length) : cut xs (some (j : Int)) none = xs.drop j := by
  have e1 : HT.sIx xs.length 0 (some (j : Int)) = min j xs.length := HT.sIx_nat _ _ _
  have e2 : HT.sIx xs.length xs.length none = xs.length := rfl
  unfold cut
  rw [e1, e2, Nat.min_eq_left h, List.take_of_length_le (by rw [List.length_drop]; omega)]
def hol (mask : List (Option Int)) (a : List Int) (k : Nat) : Option Int := match mask[k]? with
  | some none => none
  | _ => a[k]?
theorem hol_ok {ns a : List Int} {mask : List (Option Int)} (ha : FlOk ns a) : PtOk ns ((List.range ns.length).map (hol mask a)) := by
  refine ⟨by simp, fun k s i h1 h2 => ?_⟩
  rw [List.getElem?_map] at h2
  obtain ⟨j, h3, h4⟩ := Option.map_eq_some_iff.mp h2
  obtain ⟨hl, e⟩ := List.getElem?_eq_some_iff.mp h3
  simp at e
  subst e
  unfold hol at h4
  split at h4
  · cases h4
  · exact ha.2 _ s i h1 h4
theorem bent_ok {ns : List Int} {os : List (Option Int)} {j : Nat} {w s : Int} (hp : PtOk ns os) (hj : ns[j]? = some s) (h0 : 0 ≤ w) (h1 : w < s) : PtOk ns (os.take j ++ [some w] ++ os.drop (j + 1)) := by
  have hl := hp.1
  have hlt := (List.getElem?_eq_some_iff.mp hj).1
  refine ⟨by simp; omega, fun k s' i e1 e2 => ?_⟩
  have tl : (os.take j).length = j := by rw [List.length_take]; omega
  by_cases hk : k < j
  · rw [List.append_assoc, List.getElem?_append_left (by omega), List.getElem?_take_of_lt hk] at e2
    exact hp.2 k s' i e1 e2
  · by_cases hk2 : k = j
    · subst hk2
      rw [List.append_assoc, List.getElem?_append_right (by omega), tl] at e2
      simp at e2
      rw [hj] at e1
      cases e1
      subst e2
      exact ⟨h0, h1⟩
    · rw [List.getElem?_append_right (by simp; omega)] at e2
      simp [tl] at e2
      have : j + 1 + (k - (j + 1)) = k := by omega
      rw [this] at e2
      exact hp.2 k s' i e1 e2
def HoP (ss : List Int) (cell : Int) (bag : List PV) (ns a b c : List Int) (mask : List (Option Int)) (o8 o10 o11 o12 o13 o14 o15 o16 o17 : Option SV) (i : Nat) (acc : List PV) (st : ST) : Prop :=
  ∃ k, acc = ((List.range i).map (hol mask a)).map po ∧ st = ⟨[some (.v (.scr ss)), some (.v (.int cell)), some (.own (.lst bag)), some (.v (tsz ns)), some (.v (tsz a)), some (.v (tsz b)), some (.v (tsz c)), some (.v (tpt mask)), o8, k, o10, o11, o12, o13, o14, o15, o16, o17], []⟩
theorem body_wp {ss : List Int} {cell : Int} {o2 o3 o4 o5 o6 o7 o8 o9 o10 o11 o12 o13 o14 o15 o16 o17 : Option SV} {p : Post} (h : ∀ es : List (Option SV), es.length = 16 → p.nx ⟨some (.v (.scr ss)) :: some (.v (.int cell)) :: es, []⟩) :
    (exs C0 law_b ⟨[some (.v (.scr ss)), some (.v (.int cell)), o2, o3, o4, o5, o6, o7, o8, o9, o10, o11, o12, o13, o14, o15, o16, o17], []⟩).wq p := by
  change (exs C0 (.cons _ (.cons _ (.cons _ (.cons _ (.cons _ (.cons _ (.cons _ (.cons _ lw8)))))))) _).wq p
  simp [exs, ex, ev, evL, envAt, svAll, ER.sv, slotsOf]
  refine pouch_wp fun g0 b0 => ?_
  simp [back, SV.er, store, ST.put, exs, ex, ev, evL, envAt, svAll, ER.sv, slotsOf]
  refine sizes_wp b0 (by omega) fun ns g1 hs b1 => ?_
  simp [back, SV.er, store, ST.put, exs, ex, ev, evL, envAt, svAll, ER.sv, slotsOf]
  refine row_wp hs b1 (by omega) fun a g2 ha b2 => ?_
  simp [back, SV.er, store, ST.put, exs, ex, ev, evL, envAt, svAll, ER.sv, slotsOf]
  refine near_wp hs ha b2 (by omega) fun b g3 hb b3 => ?_
  simp [back, SV.er, store, ST.put, exs, ex, ev, evL, envAt, svAll, ER.sv, slotsOf]
  refine near_wp hs ha b3 (by omega) fun c g4 hc b4 => ?_
  simp [back, SV.er, frzSl, storeAll, store, ST.put, exs, ex, ev, evL, envAt, svAll, ER.sv, slotsOf]
  refine partial_wp hs b4 (by omega) fun mask g5 hm b5 => ?_
  have h8 := hs.2.1
  have h1 := hs.1
  have la := ha.1
  have lm := hm.1
  have c1 : (-4611686018427387904 : Int) ≤ ns.length := by omega
  have c2 : (ns.length : Int) ≤ 16777216 := by omega
  have len : bltO .len [.v (tsz ns)] = some (.v (.int ns.length)) := by simp [bltO, tsz, DV.seq]
  simp [back, SV.er, store, ST.put, exs, ex, ev, evL, evI, envAt, ER.get, len, rngO, big, line, c1, c2]
  refine map_wp (HoP ss cell g5 ns a b c mask o8 o10 o11 o12 o13 o14 o15 o16 o17) ?_ ⟨o9, rfl, rfl⟩ ?_
  · rintro i w acc st hx ⟨kk, rfl, rfl⟩
    obtain ⟨hi, rfl⟩ := ranged_at hx
    rw [Int.zero_add]
    have i1 : i < mask.length := by omega
    have i2 : i < a.length := by omega
    have m1 : (mask.map po)[i]? = some (po mask[i]) := by simp [i1]
    have a1 : (a.map PV.int)[i]? = some (.int a[i]) := by simp [i2]
    refine lcF_ok rfl ?_
    cases ho : mask[i] with
    | none =>
      rw [ho] at m1
      have ok : hol mask a i = none := by simp [hol, i1, ho]
      simp [tst, ev, envAt, wipeS, wipeE, ST.put, ER.get, ER.frz, tpt, ix_tup m1, po, truthy, cmpO, isO, isNone]
      exact ⟨none, by rw [List.range_succ, List.map_append, List.map_append]; simp [ok, po], rfl⟩
    | some v =>
      rw [ho] at m1
      have ok : hol mask a i = some a[i] := by simp [hol, i1, i2, ho]
      simp [tst, ev, envAt, wipeS, wipeE, ST.put, ER.get, ER.frz, tpt, tsz, ix_tup m1, ix_tup a1, po, truthy, cmpO, isO, isNone]
      exact ⟨none, by rw [List.range_succ, List.map_append, List.map_append]; simp [ok, po], rfl⟩
  · rintro r st ⟨kk, rfl, rfl⟩
    have hr : (ranged 0 ns.length).length = ns.length := by simp [ranged]
    rw [hr]
    have hh := hol_ok (mask := mask) ha
    have lh : ((List.range ns.length).map (hol mask a)).length = ns.length := hh.1
    generalize (List.range ns.length).map (hol mask a) = holey at hh lh
    have z1 : holey.length ≤ 16777216 := by omega
    simp [z1, ER.get, bltO_tuple, DV.seq, store, ST.put, exs, ex, ev, evL, envAt, len, svAll, ER.sv, slotsOf]
    refine take_wp (by omega) (by omega) b5 (by omega) fun t g6 t0 t1 b6 => ?_
    obtain ⟨j, rfl⟩ := Int.eq_ofNat_of_zero_le t0
    have hj : j < ns.length := by omega
    have n1 : (ns.map PV.int)[j]? = some (.int ns[j]) := by simp [hj]
    obtain ⟨s1, s2⟩ := hs.2.2 ns[j] (List.getElem_mem _)
    have cl := cut_lo (xs := holey.map po) (j := j) (by simp; omega)
    have ch := cut_hi (xs := holey.map po) (j := j + 1) (by simp; omega)
    rw [Int.natCast_add] at ch
    simp [back, SV.er, store, ST.put, exs, ex, ev, evO, evL, envAt, ER.get, slO, cl, tsz, ix_tup n1, svAll, ER.sv, slotsOf]
    refine take_wp (by omega) (by omega) b6 (by omega) fun w g7 w0 w1 b7 => ?_
    have z2 : min j holey.length + 1 ≤ 16777216 := by omega
    have z3 : min j holey.length + 1 + (holey.length - (j + 1)) ≤ 16777216 := by omega
    have ch' : cut (holey.map po) (some ((j : Int) + 1)) none = (holey.map po).drop (j + 1) := ch
    simp [back, SV.er, frzL, ER.frz, line, ER.get, binO, addO, binI, ev, evO, envAt, slO, ch', store, ST.put, z2, z3]
    have hb' := bent_ok (w := w) hh (j := j) (s := ns[j]) (by simp [hj]) w0 w1
    have eb : PV.tup ((holey.map po).take j ++ (PV.int w :: (holey.map po).drop (j + 1))) = tpt (holey.take j ++ [some w] ++ holey.drop (j + 1)) := by simp [tpt, po, List.map_take, List.map_drop]
    have := lw8_wp (f := ⟨ss, cell, g7, ns, a, b, c, mask, holey, j, holey.take j ++ [some w] ++ holey.drop (j + 1)⟩) (k := kk) (so := o12) (row := o13) (due := o14) (x := o15) (y := o16) (z := o17) (p := p) ⟨hs, ha, hb, hc, hm, hh, hb'⟩ fun k so row due => lw9_wp ⟨hs, ha, hb, hc, hm, hh, hb'⟩ fun k due x y z => h _ rfl
    rw [eb]
    exact this
end Q.K06
end
section
set_option maxHeartbeats 200000
namespace Q.K06
open PySem Q
theorem T_law : T "law" = some f_law := rfl
theorem body16 {ss : List Int} {cell : Int} {p : Post} (h : ∀ es : List (Option SV), es.length = 16 → p.nx ⟨some (.v (.scr ss)) :: some (.v (.int cell)) :: es, []⟩) (es : List (Option SV)) (hl : es.length = 16) : (exs C0 law_b ⟨some (.v (.scr ss)) :: some (.v (.int cell)) :: es, []⟩).wq p :=
  match es, hl with
  | [_, _, _, _, _, _, _, _, _, _, _, _, _, _, _, _], _ => body_wp h
def CellP (ss : List Int) (_ : Nat) (st : ST) : Prop := ∃ (o : Option SV) (es : List (Option SV)), es.length = 16 ∧ st = ⟨some (.v (.scr ss)) :: o :: es, []⟩
theorem ret_of {o : COut} (h : o.wq (fun r _ _ => r = .v (.bl true)) fun _ _ _ => False) : ∃ as' g', o = .ret (.v (.bl true)) as' g' := by
  cases o with
  | ret r as g =>
    have h : r = .v (.bl true) := h
    subst h
    exact ⟨as, g, rfl⟩
  | exc x as g => exact h.elim
  | bad => exact h.elim
theorem step16 {ss : List Int} {o : Option SV} {es : List (Option SV)} {c : Int} {i : Nat} {p : Post} (hl : es.length = 16) (hp : ∀ st, CellP ss (i + 1) st → p.nx st) :
    ((nxO (stTg C0 (.v 1) (.int c) ⟨some (.v (.scr ss)) :: o :: es, []⟩)).seq fun st => exs C0 law_b st).wq p := by
  simp [stTg, ST.put]
  exact body16 (fun es' hl' => hp _ ⟨_, es', hl', rfl⟩) es hl
theorem end16 {ss : List Int} {o : Option SV} {es : List (Option SV)} : (retO f_law [.v (.scr ss)] (.v (.bl true)) ⟨some (.v (.scr ss)) :: o :: es, []⟩).wq (fun r _ _ => r = .v (.bl true)) fun _ _ _ => False := by
  have e : f_law.re = [] := rfl
  simp [retO, e, finals, okBack]
theorem loop16 {ss : List Int} {cs : List PV} {n : Int} {p : Post} (hi : ∀ v ∈ cs, ∃ i, v = PV.int i) (hp : ∀ o es, p.nx ⟨some (.v (.scr ss)) :: o :: es, []⟩) :
    (forO (fun x st => (nxO (stTg C0 (.v 1) x st)).seq fun st => exs C0 law_b st) (.int n :: cs) ⟨[some (.v (.scr ss)), none, none, none, none, none, none, none, none, none, none, none, none, none, none, none, none, none], []⟩).wq p := by
  refine for_wp (CellP ss) ?_ ⟨none, [none, none, none, none, none, none, none, none, none, none, none, none, none, none, none, none], rfl, rfl⟩ ?_
  · rintro i v st hx ⟨o, es, hl, rfl⟩
    have hv : ∃ c, v = .int c := by
      rcases List.mem_cons.mp (List.mem_of_getElem? hx) with h | hm
      · exact ⟨_, h⟩
      · exact hi v hm
    obtain ⟨c, rfl⟩ := hv
    exact step16 (i := i) hl fun st h => h
  · rintro st ⟨o, es, hl, rfl⟩
    exact hp o es
theorem for_law {ns : List Int} {p : Post} (h : ns.length ≤ 63) (hp : ∀ o es, p.nx ⟨some (.v (.scr ns)) :: o :: es, []⟩) :
    (ex C0 (.for_ (.v 1) (.seq (.bin .Add (.lst (.cons (.bin .Add (.bin .Mult (.c (.int 9)) (.bin .Pow (.c (.int 10)) (.c (.int 61)))) (.c (.int 577215))) .nil)) (.sl (.var 0) .no (.yes (.c (.int 20)))))) law_b) ⟨[some (.v (.scr ns)), none, none, none, none, none, none, none, none, none, none, none, none, none, none, none, none, none], []⟩).wq p := by
  have p1 : powOk 10 61 = true := by decide
  have m1 : mulOk 9 10000000000000000000000000000000000000000000000000000000000000 = true := by decide +kernel
  have hc : (cut (ns.map PV.int) none (some 20)).length ≤ 63 := by
    unfold cut
    simp
    omega
  have hi : ∀ v ∈ cut (ns.map PV.int) none (some 20), ∃ i, v = .int i := fun v hv => by
    unfold cut at hv
    have := List.mem_of_mem_drop (List.mem_of_mem_take hv)
    obtain ⟨i, _, rfl⟩ := List.mem_map.mp this
    exact ⟨i, rfl⟩
  generalize hcut : cut (ns.map PV.int) none (some 20) = cs at hc hi
  have hz : 1 + cs.length ≤ 16777216 := by omega
  have hz' : cs.length + 1 ≤ 16777216 := by omega
  simp [ex, ev, evI, evL, evO, envAt, ER.get, binO, binI, p1, m1, frzL, ER.frz, line, slO, hcut, addO, DV.lst, itemsOf, hz, hz']
  generalize (90000000000000000000000000000000000000000000000000000000577215 : Int) = n0
  exact loop16 hi hp
theorem all (ns : List Int) (h : ns.length ≤ 63) : ∃ as' g', callN (tbl defs) 30 "law" [.v (.scr ns)] [] = .ret (.v (.bl true)) as' g' := by
  refine ret_of (call_wp (T := T) (n := 29) T_law rfl rfl ?_)
  have e : f_law.body = .cons (.for_ (.v 1) (.seq (.bin .Add (.lst (.cons (.bin .Add (.bin .Mult (.c (.int 9)) (.bin .Pow (.c (.int 10)) (.c (.int 61)))) (.c (.int 577215))) .nil)) (.sl (.var 0) .no (.yes (.c (.int 20)))))) law_b) (.cons (.ret (.c (.bl true))) .nil) := rfl
  rw [e, exs, sw_seq]
  refine for_law h fun o es => ?_
  dsimp only
  simp only [exs, ex, ev, sw_seq, sw_so, wq_ok, sw_ret]
  exact end16
end Q.K06
end
open PySem PySem.W PyProof.Rows
set_option maxRecDepth 100000 in
set_option maxHeartbeats 0 in
theorem PySem.Challenge.cw_eitherfields_k06_agreeing_and_mixing_holds : PySem.Challenge.rw_eitherfields_k06_agreeing_and_mixing.Holds := by
  w_on; o_law; k_head; (case hw => w_witness2)
  k_fill
  refine Q.law_walk (l := PySem.Challenge.rw_eitherfields_k06_agreeing_and_mixing) (lv := 30) (ds := Q.K06.defs) (kbs := Q.K06.kbs) (e := Q.K06.d_law) rfl (by decide) rfl ⟨rfl, by decide, by decide⟩ (fun w h Y => PySem.W.kIn_of Y) ?St Q.K06.hnd Q.K06.hd (by simp [Q.K06.defs]) rfl rfl rfl rfl Q.K06.all
  case St =>
    intro w mg fa h KX G hmg
    refine Q.stand_mk KX G ?_ ?_
    · intro d hd
      simp only [Q.K06.defs, List.mem_cons, List.not_mem_nil, or_false] at hd
      rcases hd with rfl | rfl | rfl | rfl | rfl | rfl | rfl | rfl | rfl | rfl | rfl | rfl | rfl | rfl | rfl | rfl
      · refine' Q.one_mk Q.K06.d_is_between KX G Q.K06.bp_is_between Q.K06.bk_is_between ?a ?l ?c ?k
        (case a => k_is); (case l => k_is); (case c => k_is); (case k => k_is)
      · refine' Q.one_mk Q.K06.d_is_sheet KX G Q.K06.bp_is_sheet Q.K06.bk_is_sheet ?a ?l ?c ?k
        (case a => k_is); (case l => k_is); (case c => k_is); (case k => k_is)
      · refine' Q.one_mk Q.K06.d_is_part_of KX G Q.K06.bp_is_part_of Q.K06.bk_is_part_of ?a ?l ?c ?k
        (case a => k_is); (case l => k_is); (case c => k_is); (case k => k_is)
      · refine' Q.one_mk Q.K06.d_is_filling_of KX G Q.K06.bp_is_filling_of Q.K06.bk_is_filling_of ?a ?l ?c ?k
        (case a => k_is); (case l => k_is); (case c => k_is); (case k => k_is)
      · refine' Q.one_mk Q.K06.d_need_sheet KX G Q.K06.bp_need_sheet Q.K06.bk_need_sheet ?a ?l ?c ?k
        (case a => k_is); (case l => k_is); (case c => k_is); (case k => k_is)
      · refine' Q.one_mk Q.K06.d_need_part KX G Q.K06.bp_need_part Q.K06.bk_need_part ?a ?l ?c ?k
        (case a => k_is); (case l => k_is); (case c => k_is); (case k => k_is)
      · refine' Q.one_mk Q.K06.d_need_filling KX G Q.K06.bp_need_filling Q.K06.bk_need_filling ?a ?l ?c ?k
        (case a => k_is); (case l => k_is); (case c => k_is); (case k => k_is)
      · refine' Q.one_mk Q.K06.d_agrees KX G Q.K06.bp_agrees Q.K06.bk_agrees ?a ?l ?c ?k
        (case a => k_is); (case l => k_is); (case c => k_is); (case k => k_is)
      · refine' Q.one_mk Q.K06.d_mixed KX G Q.K06.bp_mixed Q.K06.bk_mixed ?a ?l ?c ?k
        (case a => k_is); (case l => k_is); (case c => k_is); (case k => k_is)
      · refine' Q.one_mk Q.K06.d_law_pouch KX G Q.K06.bp_law_pouch Q.K06.bk_law_pouch ?a ?l ?c ?k
        (case a => k_is); (case l => k_is); (case c => k_is); (case k => k_is)
      · refine' Q.one_mk Q.K06.d_law_take KX G Q.K06.bp_law_take Q.K06.bk_law_take ?a ?l ?c ?k
        (case a => k_is); (case l => k_is); (case c => k_is); (case k => k_is)
      · refine' Q.one_mk Q.K06.d_law_draw_sizes KX G Q.K06.bp_law_draw_sizes Q.K06.bk_law_draw_sizes ?a ?l ?c ?k
        (case a => k_is); (case l => k_is); (case c => k_is); (case k => k_is)
      · refine' Q.one_mk Q.K06.d_law_draw_row KX G Q.K06.bp_law_draw_row Q.K06.bk_law_draw_row ?a ?l ?c ?k
        (case a => k_is); (case l => k_is); (case c => k_is); (case k => k_is)
      · refine' Q.one_mk Q.K06.d_law_draw_partial KX G Q.K06.bp_law_draw_partial Q.K06.bk_law_draw_partial ?a ?l ?c ?k
        (case a => k_is); (case l => k_is); (case c => k_is); (case k => k_is)
      · refine' Q.one_mk Q.K06.d_law_near KX G Q.K06.bp_law_near Q.K06.bk_law_near ?a ?l ?c ?k
        (case a => k_is); (case l => k_is); (case c => k_is); (case k => k_is)
      · refine' Q.one_mk Q.K06.d_law KX G Q.K06.bp_law Q.K06.bk_law ?a ?l ?c ?k
        (case a => k_is); (case l => k_is); (case c => k_is); (case k => k_is)
    · intro x hx
      simp only [Q.bltNames, List.mem_cons, List.not_mem_nil, or_false] at hx
      rcases hx with rfl | rfl | rfl | rfl | rfl | rfl | rfl | rfl | rfl | rfl | rfl | rfl | rfl | rfl | rfl | rfl <;> k_is

