import PyProof.Rows.All
import Wide.All
import OpenK.AllK
import Wide.FinOn
import HandS.ForMost
import HandS.Wide
import HandS.Deep
import HandS.TupAny
import HandS.TupMul
import HandS.TupLen
import HandS.Style
import HandS.ForExc
import HandS.Flow
import HandS.More
import HandS.IsInst
import HandS.TupSets
import HandS.RevRange
import HandS.Conv
import HandS.Comp
import HandS.Words
import HandS.ExcOwn
import HandS.Strs
import HandS.SetFor
import HandS.DictComp
import HandS.Ends
import PySem.Challenge.RW_eitherfields_k14_whole_other_names
set_option Elab.async false
set_option linter.all false
set_option maxRecDepth 100000
section
/-! Q: a small language without positions, and what it does. -/
namespace Q
open PySem

/-- a value that never changes -/
inductive PV where
  | non | bl (b : Bool) | int (i : Int) | str (x : Str) | tup (xs : List PV) | lst (xs : List PV) | scr (xs : List Int) | obj (n : Nat)
/-- what a slot may own -/
inductive LD where
  | lst (xs : List PV) | dct (t : Bool) (kvs : List (PV × PV))
inductive SV where
  | v (p : PV) | own (d : LD)
abbrev Env := List (Option SV)
/-- an instance: its class, its fields -/
structure GI where
  cls : Str
  flds : List (Str × PV)
structure ST where
  env : Env
  g : List GI
/-- an exception: its class, what it keeps -/
structure XV where
  cls : Str
  arg : Option (Str × PV)
inductive ER where
  | v (p : PV) | own (d : LD) | slot (i : Nat)
inductive DV where
  | v (p : PV) | d (l : LD) | bad
inductive Out (α : Type) where
  | ok (a : α) (st : ST) | exc (x : XV) (st : ST) | bad
def Out.bind {α β : Type} (o : Out α) (f : α → ST → Out β) : Out β := match o with
  | .ok a st => f a st
  | .exc x st => .exc x st
  | .bad => .bad
def Out.wp {α : Type} (o : Out α) (Qk : α → ST → Prop) (Ek : XV → ST → Prop) : Prop := match o with
  | .ok a st => Qk a st
  | .exc x st => Ek x st
  | .bad => False
@[simp] theorem bind_ok {α β : Type} (a : α) (st : ST) (f : α → ST → Out β) : (Out.ok a st).bind f = f a st := rfl
@[simp] theorem bind_exc {α β : Type} (x : XV) (st : ST) (f : α → ST → Out β) : (Out.exc x st).bind f = .exc x st := rfl
@[simp] theorem bind_bad {α β : Type} (f : α → ST → Out β) : (Out.bad : Out α).bind f = .bad := rfl
@[simp] theorem wp_ok {α : Type} (a : α) (st : ST) (q : α → ST → Prop) (e : XV → ST → Prop) : (Out.ok a st).wp q e ↔ q a st := Iff.rfl
@[simp] theorem wp_exc {α : Type} (x : XV) (st : ST) (q : α → ST → Prop) (e : XV → ST → Prop) : (Out.exc x st : Out α).wp q e ↔ e x st := Iff.rfl
@[simp] theorem wp_bad {α : Type} (q : α → ST → Prop) (e : XV → ST → Prop) : (Out.bad : Out α).wp q e ↔ False := Iff.rfl
theorem wp_bind {α β : Type} (o : Out α) (f : α → ST → Out β) (q : β → ST → Prop) (e : XV → ST → Prop) : (o.bind f).wp q e ↔ o.wp (fun a st => (f a st).wp q e) e := by
  cases o <;> exact Iff.rfl
theorem wp_mono {α : Type} {o : Out α} {q q' : α → ST → Prop} {e e' : XV → ST → Prop} (h : o.wp q e) (hq : ∀ a st, q a st → q' a st) (he : ∀ x st, e x st → e' x st) : o.wp q' e' := by
  cases o with
  | ok a st => exact hq a st h
  | exc x st => exact he x st h
  | bad => exact h.elim

/-! ### data -/
mutual
def PV.toD : PV → PyData
  | .non => .none
  | .bl b => .bool b
  | .int i => .int i
  | .str x => .str x
  | .tup xs => .tuple (PV.toDs xs)
  | .lst xs => .list (PV.toDs xs)
  | .scr _ => .dict []
  | .obj _ => .dict []
def PV.toDs : List PV → List PyData
  | [] => []
  | x :: xs => PV.toD x :: PV.toDs xs
end
theorem toDs_map : ∀ xs : List PV, PV.toDs xs = xs.map PV.toD
  | [] => rfl
  | x :: xs => by rw [PV.toDs, toDs_map xs]; rfl
/-- values that == takes -/
def PV.fit (p : PV) : Bool := SeqAt.shaped p.toD
def PV.eqv (p q : PV) : Bool := PyData.eqv p.toD q.toD

/-! ### slots, references -/
def envAt (st : ST) (i : Nat) : Option SV := (st.env[i]?).join
def ST.put (st : ST) (i : Nat) (s : Option SV) : ST := { st with env := st.env.set i s }
def wipeE (e : Env) : List Nat → Env
  | [] => e
  | i :: r => (wipeE e r).set i none
def ER.get (st : ST) : ER → DV
  | .v p => .v p
  | .own d => .d d
  | .slot i => match envAt st i with
    | some (.v p) => .v p
    | some (.own d) => .d d
    | none => .bad
/-- read as a value (a list as it stands) -/
def DV.pv : DV → Option PV
  | .v p => some p
  | .d (.lst xs) => some (.lst xs)
  | _ => none
/-- the items of a list or a tuple -/
def DV.seq : DV → Option (List PV)
  | .v (.tup xs) => some xs
  | .v (.lst xs) => some xs
  | .v (.scr ns) => some (ns.map .int)
  | .d (.lst xs) => some xs
  | _ => none
def DV.lst : DV → Option (List PV)
  | .v (.lst xs) => some xs
  | .d (.lst xs) => some xs
  | _ => none
/-- made a value for good: a slot's list is a value from then on -/
def ER.frz (st : ST) : ER → Option (PV × ST)
  | .v p => some (p, st)
  | .own (.lst xs) => some (.lst xs, st)
  | .own (.dct _ _) => none
  | .slot i => match envAt st i with
    | some (.v p) => some (p, st)
    | some (.own (.lst xs)) => some (.lst xs, st.put i (some (.v (.lst xs))))
    | _ => none
def frzO {α : Type} (o : Out ER) (f : PV → ST → Out α) : Out α := o.bind fun e st => match e.frz st with
  | some (p, st') => f p st'
  | none => .bad
def optO {α β : Type} (o : Option α) (f : α → Out β) : Out β := match o with
  | some a => f a
  | none => .bad
@[simp] theorem optO_some {α β : Type} (a : α) (f : α → Out β) : optO (some a) f = f a := rfl
@[simp] theorem optO_none {α β : Type} (f : α → Out β) : optO none f = .bad := rfl

/-! ### syntax -/
inductive CT where
  | int | bool | str | tuple | list
  deriving DecidableEq
def CT.name : CT → String
  | .int => "int"
  | .bool => "bool"
  | .str => "str"
  | .tuple => "tuple"
  | .list => "list"

inductive BF where
  | len | int | abs | tuple | list | all | repr | str | bool | max2 | min2 | sortedSet | lenSet | lenSetT | sorted | listRg | tupRg | dictOf
  deriving DecidableEq
inductive MF where
  | get1 | get2 | index | join | split | upper
  deriving DecidableEq
inductive MM where
  | append | extend | pop | popAt | insert | clear
  deriving DecidableEq
/-- a target: a name, or a tuple of names -/
inductive Tg where
  | v (i : Nat) | t (is : List Nat)
/-- an argument that a parameter gets: the k-th written one, or the default -/
inductive CA where
  | a (i : Nat) | d (p : PV)
mutual
inductive E where
  | c (p : PV)
  | gc (x : Str) (p : PV)
  | var (i : Nat)
  | bin (op : Operator) (a b : E)
  | neg (a : E)
  | not (a : E)
  | and (a b : E)
  | or (a b : E)
  | cmp (op : CmpOp) (a b : E)
  | chain (o1 o2 : CmpOp) (a b d : E)
  | ifx (t : T) (a b : E)
  | tup (es : EL)
  | lst (es : EL)
  | dnew (t : Bool)
  | idx (a b : E)
  | sl (a : E) (lo hi : OE)
  | call (f : Str) (args : EL)
  | callp (f : Str) (ps : List CA) (args kws : EL)
  | blt (f : BF) (args : EL)
  | meth (m : MF) (o : E) (args : EL)
  | mut (m : MM) (i : Nat) (args : EL)
  | lc (ws : List Nat) (tg : Tg) (it : IT) (cond : T) (elt : E)
  | lco (ws : List Nat) (tg : Tg) (i : Nat) (cond : T) (elt : E)
  | lc2 (ws ws1 : List Nat) (tg : Tg) (it : IT) (cond : T) (tg1 : Tg) (it1 : IT) (cond1 : T) (elt : E)
  | dc (ws : List Nat) (tg : Tg) (it : IT) (k v : E)
  | isi (a : E) (c : CT)
  | fstr (es : EL)
  | bad
inductive T where
  | tt | e (a : E) | and (a b : T) | or (a b : T) | not (a : T)
inductive OE where
  | no | yes (e : E)
inductive EL where
  | nil | cons (e : E) (r : EL)
inductive IT where
  | seq (a : E) | rng1 (a : E) | rng2 (a b : E) | rng3 (a b c : E) | rev1 (a : E)
end
mutual
inductive S where
  | asg (t : Tg) (e : E)
  | par (is : List Nat) (es : EL)
  | aug (i : Nat) (op : Operator) (e : E)
  | sub (i : Nat) (k e : E)
  | ex (e : E)
  | ife (t : T) (a b : SL)
  | for_ (t : Tg) (it : IT) (b : SL)
  | whl (t : T) (b : SL)
  | ret (e : E)
  | retn | brk | cnt | pass
  | raise (cls : Str) (m : Str)
  | bad
inductive SL where
  | nil | cons (s : S) (r : SL)
end
/-- a function: its slots' number, its parameters' number, the parameters that are stored anew, its body -/
structure Fn where
  n : Nat
  np : Nat
  re : List Nat
  body : SL
end Q
end
section
namespace Q
open PySem
def line : Nat := 16777216
/-! ### operators -/
def mulOk (i j : Int) : Bool := decide (i.natAbs.log2 + j.natAbs.log2 < 1000000)
def powOk (i j : Int) : Bool := decide (0 ≤ j) && decide (j ≤ 1000000) && decide (i.natAbs < 18446744073709551616)
def powW (i j : Int) : Bool := decide (0 ≤ j) && decide ((Builtin.Int.intBits i : Int) * j ≤ 134217728)
def binI (op : Operator) (a b : Int) : Option Int := match op with
  | .Add => some (a + b)
  | .Sub => some (a - b)
  | .Mult => if mulOk a b then some (a * b) else none
  | .FloorDiv => if 0 < b ∧ b.natAbs.log2 < 9000 then some (a / b) else none
  | .Mod => if 0 < b then some (a % b) else none
  | .Pow => if powW a b then some (a ^ b.toNat) else none
  | .LShift => if powOk a b then some (a * 2 ^ b.toNat) else none
  | .RShift => if 0 ≤ b then some (a / 2 ^ b.toNat) else none
  | .BitAnd => some (Builtin.bitAnd a b)
  | _ => none
def addO (x y : DV) : Option ER := match x, y with
  | .v (.str a), .v (.str b) => if a.length + b.length ≤ line then some (.v (.str (a ++ b))) else none
  | .v (.tup a), .v (.tup b) => if a.length + b.length ≤ line then some (.v (.tup (a ++ b))) else none
  | x, y => match x.lst, y.lst with
    | some a, some b => if a.length + b.length ≤ line then some (.own (.lst (a ++ b))) else none
    | _, _ => none
def mulO (x y : DV) : Option ER := match x, y with
  | .v (.tup a), .v (.int k) => if a ≠ [] ∧ 1 ≤ k ∧ k ≤ 1000 ∧ a.length ≤ 1000 then some (.v (.tup (List.replicate k.toNat a).flatten)) else none
  | x, .v (.int k) => match x.lst with
    | some a => if 0 ≤ k ∧ k ≤ 1000 ∧ a.length ≤ 1000 then some (.own (.lst (List.replicate k.toNat a).flatten)) else none
    | none => none
  | _, _ => none
def binO (op : Operator) (x y : DV) : Option ER := match x, y with
  | .v (.int a), .v (.int b) => (binI op a b).map fun i => .v (.int i)
  | x, y => match op with
    | .Add => addO x y
    | .Mult => mulO x y
    | _ => none
def intsOf : List PV → Option (List Int)
  | [] => some []
  | .int i :: r => (intsOf r).map (i :: ·)
  | _ => none
def eqO (x y : DV) : Option Bool := match x, y with
  | .v (.str a), .v (.str b) => some (a == b)
  | x, y => match x.pv, y.pv with
    | some p, some q => if p.fit && q.fit then some (p.eqv q) else none
    | _, _ => none
def ltI (op : CmpOp) (a b : Int) : Option Bool := match op with
  | .Lt => some (decide (a < b))
  | .LtE => some (decide (a ≤ b))
  | .Gt => some (decide (b < a))
  | .GtE => some (decide (b ≤ a))
  | _ => none
def isNone : DV → Bool
  | .v .non => true
  | _ => false
def isO (x y : DV) : Option Bool := match y with
  | .v .non => match x with
    | .bad => none
    | x => some (isNone x)
  | .v (.bl b) => match x with
    | .v (.bl a) => some (decide (a = b))
    | _ => none
  | _ => none
/-- a key of a dict: a number or a text, or (where the keys are tuples) a tuple of these -/
def flatKey : PV → Bool
  | .int _ => true
  | .str _ => true
  | _ => false
def keyOk (t : Bool) (p : PV) : Bool := if t then (match p with | .tup xs => xs.all flatKey | _ => false) else flatKey p
/-- equal keys: of keys (numbers, texts, tuples of these) this is equality -/
def keyEq : PV → PV → Bool
  | .int a, .int b => a == b
  | .str a, .str b => a == b
  | .tup xs, .tup ys => keysEq xs ys
  | _, _ => false
where keysEq : List PV → List PV → Bool
  | [], [] => true
  | .int a :: r, .int b :: t => a == b && keysEq r t
  | .str a :: r, .str b :: t => a == b && keysEq r t
  | _, _ => false
def dGet : List (PV × PV) → PV → Option PV
  | [], _ => none
  | (a, v) :: r, k => if keyEq a k then some v else dGet r k
def dHas (kvs : List (PV × PV)) (k : PV) : Bool := (dGet kvs k).isSome
def dPut (kvs : List (PV × PV)) (k v : PV) : List (PV × PV) :=
  if dHas kvs k then kvs.map (fun p => if keyEq p.1 k then (p.1, v) else p) else kvs ++ [(k, v)]
def inO (x y : DV) : Option Bool := match x.pv with
  | none => none
  | some p => match y with
    | .d (.dct t kvs) => if keyOk t p then some (dHas kvs p) else none
    | .v (.str z) => match p with
      | .str s => some (!(Builtin.Str.occurrences z s 0 z.length 1).isEmpty)
      | _ => none
    | .v (.tup xs) => if p.fit && (PV.tup xs).fit then some (xs.any fun q => q.eqv p) else none
    | y => match y.lst with
      | some xs => if p.fit && (PV.lst xs).fit then some (xs.any fun q => q.eqv p) else none
      | none => none
def cmpO (op : CmpOp) (x y : DV) : Option Bool := match op with
  | .Eq => eqO x y
  | .NotEq => (eqO x y).map (!·)
  | .Is => isO x y
  | .IsNot => (isO x y).map (!·)
  | .In => inO x y
  | .NotIn => (inO x y).map (!·)
  | op => match x, y with
    | .v (.int a), .v (.int b) => ltI op a b
    | .v (.tup xs), .v (.tup ys) => match op, intsOf xs, intsOf ys with
      | .Lt, some a, some b => some (HT.lexLt a b)
      | _, _, _ => none
    | _, _ => none
def truthy : DV → Option Bool
  | .v .non => some false
  | .v (.bl b) => some b
  | .v (.int i) => some (i != 0)
  | .v (.str x) => if x.length ≤ line then some ((x.length : Int) != 0) else none
  | .v (.tup xs) => some (!xs.isEmpty)
  | .v (.lst xs) => some (!xs.isEmpty)
  | .d (.lst xs) => some (!xs.isEmpty)
  | _ => none
/-! ### subscripts -/
def ixN (n : Nat) (i : Int) : Option Nat := if 0 ≤ i then (if i < n then some i.toNat else none) else if -(n : Int) ≤ i then some (i + n).toNat else none
def ixO (x y : DV) : Option PV := match x, y with
  | .d (.dct t kvs), y => match y.pv with
    | some k => if keyOk t k then dGet kvs k else none
    | none => none
  | .v (.str z), .v (.int i) => if z.length ≤ line then (ixN z.length i).bind fun j => (z.cps.toList[j]?).map fun c => .str ⟨#[c]⟩ else none
  | x, .v (.int i) => x.seq.bind fun xs => (ixN xs.length i).bind fun j => xs[j]?
  | _, _ => none
def cut {α : Type} (xs : List α) (lo hi : Option Int) : List α := (xs.drop (HT.sIx xs.length 0 lo)).take (HT.sIx xs.length xs.length hi - HT.sIx xs.length 0 lo)
def slO (x : DV) (lo hi : Option Int) : Option ER := match x with
  | .v (.str z) => if z.length ≤ line then some (.v (.str ⟨(cut z.cps.toList lo hi).toArray⟩)) else none
  | .v (.tup xs) => some (.v (.tup (cut xs lo hi)))
  | .v (.scr ns) => some (.own (.lst (cut (ns.map .int) lo hi)))
  | x => x.lst.map fun xs => .own (.lst (cut xs lo hi))
/-! ### built-in functions -/
def boolsOf : List PV → Option (List Bool)
  | [] => some []
  | .bl i :: r => (boolsOf r).map (i :: ·)
  | _ => none
def strsOf : List PV → Option (List Str)
  | [] => some []
  | .str i :: r => (strsOf r).map (i :: ·)
  | _ => none
def dedup : List Int → List Int
  | [] => []
  | x :: r => x :: (dedup r).filter (fun y => y != x)
/-- into an ascending list, once -/
def insI (x : Int) : List Int → List Int
  | [] => [x]
  | y :: r => if x < y then x :: y :: r else if x = y then y :: r else y :: insI x r
def sortI (l : List Int) : List Int := l.foldr insI []
def insT (x : List Int) : List (List Int) → List (List Int)
  | [] => [x]
  | y :: r => if HT.lexLt x y then x :: y :: r else if x = y then y :: r else y :: insT x r
def sortT (l : List (List Int)) : List (List Int) := l.foldr insT []
def tupsOf : List PV → Option (List (List Int))
  | [] => some []
  | .tup xs :: r => match intsOf xs, tupsOf r with
    | some a, some b => some (a :: b)
    | _, _ => none
  | _ => none
/-- the tuples that sorted(set(..)) takes: fewer than 64, of one length, of numbers from 0 below 64 -/
def tupsOk (ts : List (List Int)) : Bool := decide (ts.length < 64) && (match ts with
  | [] => true
  | t :: _ => decide (1 ≤ t.length) && ts.all fun u => decide (u.length = t.length) && u.all fun i => decide (0 ≤ i) && decide (i < 64))
def dedupT : List (List Int) → List (List Int)
  | [] => []
  | x :: r => x :: (dedupT r).filter (fun y => y != x)
def ranged (lo : Int) (n : Nat) : List PV := (List.range n).map fun (i : Nat) => .int (lo + i)
def rgOk (a b : Int) : Bool := decide (-8000000 ≤ a ∧ a ≤ 8000000 ∧ -8000000 ≤ b ∧ b ≤ 8000000)
def bltO (f : BF) (xs : List DV) : Option ER := match f, xs with
  | .len, [.v (.str x)] => if x.length ≤ line then some (.v (.int x.length)) else none
  | .len, [.d (.dct t kvs)] => if t then some (.v (.int kvs.length)) else none
  | .len, [x] => x.seq.map fun xs => .v (.int xs.length)
  | .int, [.v (.int i)] => some (.v (.int i))
  | .int, [.v (.bl b)] => some (.v (.int (if b then 1 else 0)))
  | .abs, [.v (.int i)] => some (.v (.int (if i < 0 then -i else i)))
  | .tuple, [x] => x.seq.map fun xs => .v (.tup xs)
  | .list, [x] => x.seq.map fun xs => .own (.lst xs)
  | .all, [x] => (x.lst.bind boolsOf).map fun bs => .v (.bl (bs.all id))
  | .repr, [x] => match x.pv with
    | some p => if p.fit && p.toD.showable && decide (p.toD.shown.length ≤ line) then some (.v (.str p.toD.shown)) else none
    | none => none
  | .str, [.v (.int i)] => if i.natAbs.log2 < 1920 then some (.v (.str (toString i))) else none
  | .bool, [.v (.bl b)] => some (.v (.bl b))
  | .bool, [.v (.int i)] => some (.v (.bl (i != 0)))
  | .max2, [.v (.int i), .v (.int j)] => some (.v (.int (if j > i then j else i)))
  | .min2, [.v (.int i), .v (.int j)] => some (.v (.int (if j < i then j else i)))
  | .sortedSet, [x] => x.lst.bind fun xs => match intsOf xs with
    | some ns => if ns.length < 64 then some (.own (.lst ((sortI ns).map .int))) else none
    | none => match tupsOf xs with
      | some ts => if tupsOk ts then some (.own (.lst ((sortT ts).map fun t => .tup (t.map .int)))) else none
      | none => none
  | .lenSet, [x] => x.lst.bind fun xs => match intsOf xs with
    | some ns => if ns.length < 64 then some (.v (.int (dedup ns).length)) else none
    | none => match tupsOf xs with
      | some ts => if ts.length < 64 then some (.v (.int (dedupT ts).length)) else none
      | none => none
  | .lenSetT, [.v (.tup xs)] => match intsOf xs with
    | some ns => if ns.length < 64 then some (.v (.int (dedup ns).length)) else none
    | none => none
  | .listRg, [.v (.int n)] => if rgOk 0 n then some (.own (.lst (ranged 0 n.toNat))) else none
  | .listRg, [.v (.int a), .v (.int b)] => if rgOk a b then some (.own (.lst (ranged a (b - a).toNat))) else none
  | .tupRg, [.v (.int n)] => if rgOk 0 n then some (.v (.tup (ranged 0 n.toNat))) else none
  | .tupRg, [.v (.int a), .v (.int b)] => if rgOk a b then some (.v (.tup (ranged a (b - a).toNat))) else none
  | .dictOf, [.d (.dct false kvs)] => some (.own (.dct false kvs))
  | _, _ => none
def lens (ys : List Str) : Nat := (ys.map (·.length)).sum
def methO (m : MF) (o : DV) (xs : List DV) : Option ER := match m, o, xs with
  | .get1, .d (.dct t kvs), [k] => k.pv.bind fun k => if keyOk t k then some (.v ((dGet kvs k).getD .non)) else none
  | .get2, .d (.dct t kvs), [k, d] => k.pv.bind fun k => d.pv.bind fun d => if keyOk t k then some (.v ((dGet kvs k).getD d)) else none
  | .index, o, [x] => o.lst.bind fun xs => x.pv.bind fun p => if p.fit && (PV.lst xs).fit then (xs.findIdx? fun q => q.eqv p).map fun j => .v (.int j) else none
  | .join, .v (.str a), [x] => (x.lst.bind strsOf).bind fun ys => if lens ys + ys.length * a.length ≤ line then some (.v (.str (Txt.join a ys))) else none
  | .split, .v (.str a), [.v (.str b)] => if (b.length == 0) = false ∧ a.length + 2 ≤ line then some (.own (.lst ((Txt.split a b).map .str))) else none
  | .upper, .v (.str a), [] => if a.length ≤ 5592405 then some (.v (.str (Txt.upper a))) else none
  | _, _, _ => none
/-- a list changed: what comes out, the list behind it -/
def mutO (m : MM) (xs : List PV) (as : List PV) : Option (PV × List PV) := match m, as with
  | .append, [p] => if xs.length < line then some (.non, xs ++ [p]) else none
  | .extend, [.lst ys] => if xs.length + ys.length ≤ line then some (.non, xs ++ ys) else none
  | .pop, [] => xs.getLast?.map fun y => (y, xs.dropLast)
  | .popAt, [.int i] => (ixN xs.length i).bind fun k => (xs[k]?).map fun y => (y, xs.eraseIdx k)
  | .insert, [.int i, p] => if 0 ≤ i ∧ i < 9223372036854775808 ∧ xs.length < line then some (.non, xs.take i.toNat ++ [p] ++ xs.drop i.toNat) else none
  | .clear, [] => some (.non, [])
  | _, _ => none
def tyName : DV → Option String
  | .v .non => some "NoneType"
  | .v (.bl _) => some "bool"
  | .v (.int _) => some "int"
  | .v (.str _) => some "str"
  | .v (.tup _) => some "tuple"
  | .v (.lst _) => some "list"
  | .v (.scr _) => some "list"
  | .d (.lst _) => some "list"
  | _ => none
def isiO (x : DV) (c : CT) : Option Bool := match x, c with
  | .bad, _ => none
  | .v (.obj _), _ => none
  | .d (.dct _ _), _ => none
  | .v (.int _), .int => some true
  | .v (.bl _), .int => some true
  | .v (.bl _), .bool => some true
  | .v (.str _), .str => some true
  | .v (.tup _), .tuple => some true
  | .v (.lst _), .list => some true
  | .v (.scr _), .list => some true
  | .d (.lst _), .list => some true
  | _, _ => some false
def sayO : DV → Option Str
  | .v (.str x) => some x
  | .v (.int i) => if i.natAbs.log2 < 1920 then some (toString i) else none
  | _ => none
end Q
end
section
namespace Q
open PySem
/-! ### what it does -/
inductive COut where
  | ret (r : SV) (args : List SV) (g : List GI) | exc (x : XV) (args : List SV) (g : List GI) | bad
structure Ctx where
  call : Str → List SV → List GI → COut
  np : Nat
  re : List Nat
  fuel : Nat
/-- a parameter that is never stored anew: what stands there is the caller's -/
def Ctx.ro (C : Ctx) (i : Nat) : Bool := decide (i < C.np) && !C.re.contains i
def noExc {α : Type} : Out α → Out α
  | .exc _ _ => .bad
  | o => o
@[simp] theorem noExc_ok {α : Type} (a : α) (st : ST) : noExc (.ok a st) = .ok a st := rfl
@[simp] theorem noExc_bad {α : Type} : noExc (.bad : Out α) = .bad := rfl
def wipeS (st : ST) (ws : List Nat) : ST := { st with env := wipeE st.env ws }
def putAll : ST → List Nat → List PV → Option ST
  | st, [], [] => some st
  | st, i :: is, x :: xs => putAll (st.put i (some (.v x))) is xs
  | _, _, _ => none
def roAny (C : Ctx) (is : List Nat) : Bool := is.any C.ro
def stTg (C : Ctx) (t : Tg) (x : PV) (st : ST) : Option ST := match t with
  | .v i => if C.ro i then none else some (st.put i (some (.v x)))
  | .t is => if roAny C is then none else match x with
    | .tup xs => putAll st is xs
    | _ => none
def store (C : Ctx) (i : Nat) (e : ER) (st : ST) : Option ST := if C.ro i then none else match e with
  | .v p => some (st.put i (some (.v p)))
  | .own d => some (st.put i (some (.own d)))
  | .slot j => match ER.frz st (.slot j) with
    | some (p, st') => some (st'.put i (some (.v p)))
    | none => none
/-- all to values, but new lists stay lists -/
def frzSl : List ER → ST → Option (List ER × ST)
  | [], st => some ([], st)
  | .slot i :: r, st => match ER.frz st (.slot i) with
    | some (p, st') => match frzSl r st' with
      | some (es, st'') => some (.v p :: es, st'')
      | none => none
    | none => none
  | e :: r, st => match frzSl r st with
    | some (es, st'') => some (e :: es, st'')
    | none => none
def frzL : List ER → ST → Option (List PV × ST)
  | [], st => some ([], st)
  | e :: r, st => match e.frz st with
    | some (p, st') => match frzL r st' with
      | some (ps, st'') => some (p :: ps, st'')
      | none => none
    | none => none
def storeAll (C : Ctx) : List Nat → List ER → ST → Option ST
  | [], [], st => some st
  | i :: is, e :: es, st => match store C i e st with
    | some st' => storeAll C is es st'
    | none => none
  | _, _, _ => none
/-! calls -/
def ER.sv (st : ST) : ER → Option SV
  | .v p => some (.v p)
  | .own d => some (.own d)
  | .slot i => envAt st i
def svAll (st : ST) : List ER → Option (List SV)
  | [] => some []
  | e :: r => match e.sv st, svAll st r with
    | some a, some b => some (a :: b)
    | _, _ => none
def slotsOf : List ER → List Nat
  | [] => []
  | .slot i :: r => i :: slotsOf r
  | _ :: r => slotsOf r
def back : List ER → List SV → ST → ST
  | .slot i :: r, a :: as, st => back r as (st.put i (some a))
  | _ :: r, _ :: as, st => back r as st
  | _, _, st => st
def SV.er : SV → ER
  | .v p => .v p
  | .own d => .own d
def callO (C : Ctx) (f : Str) (es : List ER) (st : ST) : Out ER := match svAll st es with
  | none => .bad
  | some as => if (slotsOf es).Nodup then (match C.call f as st.g with
      | .ret r as' g => .ok r.er (back es as' { st with g := g })
      | .exc x as' g => .exc x (back es as' { st with g := g })
      | .bad => .bad) else .bad
def pickA (es : List ER) : List CA → Option (List ER)
  | [] => some []
  | .a i :: r => match es[i]?, pickA es r with
    | some e, some b => some (e :: b)
    | _, _ => none
  | .d p :: r => (pickA es r).map (.v p :: ·)
def pickIx : List CA → List Nat
  | [] => []
  | .a i :: r => i :: pickIx r
  | .d _ :: r => pickIx r
/-! loops -/
def mapO (f : PV → ST → Out (List PV)) : List PV → ST → Out (List PV)
  | [], st => .ok [] st
  | x :: r, st => (f x st).bind fun a st => (mapO f r st).bind fun b st => .ok (a ++ b) st
def ranged' (hi : Int) (n : Nat) : List PV := (List.range n).map fun (i : Nat) => .int (hi - i)
def big : Int := 4611686018427387904
def itemsOf : PV → Option (List PV)
  | .tup xs => some xs
  | .lst xs => some xs
  | .scr ns => some (ns.map .int)
  | .str z => some (z.cps.toList.map fun c => .str ⟨#[c]⟩)
  | _ => none
def rngO : DV → Option (List PV)
  | .v (.int n) => if -big ≤ n ∧ n ≤ line then some (ranged 0 n.toNat) else none
  | _ => none
def rngO2 : DV → DV → Option (List PV)
  | .v (.int a), .v (.int b) => if -big ≤ a ∧ a < big ∧ -big ≤ b ∧ b < big ∧ b - a ≤ line then some (ranged a (b - a).toNat) else none
  | _, _ => none
def rngO3 : DV → DV → DV → Option (List PV)
  | .v (.int a), .v (.int b), .v (.int c) => if c = -1 ∧ -big ≤ a ∧ a < big ∧ -big ≤ b ∧ b < big ∧ a - b ≤ line then some (ranged' a (a - b).toNat) else none
  | _, _, _ => none
def revO : DV → Option (List PV)
  | .v (.int n) => if -big ≤ n ∧ n ≤ line then some (ranged' (n.toNat - 1) n.toNat) else none
  | _ => none
def lift {α : Type} (o : Option α) (st : ST) : Out α := match o with
  | some a => .ok a st
  | none => .bad
@[simp] theorem lift_some {α : Type} (a : α) (st : ST) : lift (some a) st = .ok a st := rfl
@[simp] theorem lift_none {α : Type} (st : ST) : lift (none : Option α) st = .bad := rfl
def dcPut (t : Bool) (kvs : List (PV × PV)) (k v : PV) : Option (List (PV × PV)) := if keyOk t k && decide (kvs.length < line) then some (dPut kvs k v) else none
def foldO (f : PV → List (PV × PV) → ST → Out (List (PV × PV))) : List PV → List (PV × PV) → ST → Out (List (PV × PV))
  | [], kvs, st => .ok kvs st
  | x :: r, kvs, st => (f x kvs st).bind fun kvs st => foldO f r kvs st
def sayAll (st : ST) : List ER → Option Str
  | [] => some ⟨#[]⟩
  | e :: r => match sayO (e.get st), sayAll st r with
    | some a, some b => some (a ++ b)
    | _, _ => none
def asBool : ER → ST → Option Bool := fun e st => match e.get st with
  | .v (.bl b) => some b
  | _ => none
def putTo (t : Tg) (x : PV) (st : ST) : Option ST := match t with
  | .v i => some (st.put i (some (.v x)))
  | .t is => match x with
    | .tup xs => putAll st is xs
    | _ => none
def recvOk (m : MF) (x : DV) : Bool := match m, x with
  | .get1, .d (.dct _ _) => true
  | .get2, .d (.dct _ _) => true
  | .index, x => x.lst.isSome
  | .join, .v (.str _) => true
  | .split, .v (.str _) => true
  | .upper, .v (.str _) => true
  | _, _ => false
def ownsL (st : ST) (i : Nat) : Bool := match envAt st i with
  | some (.own (.lst _)) => true
  | _ => false
/-- a turn of a comprehension -/
def lcF (tg : Tg) (ws : List Nat) (t : ST → Out Bool) (k : ST → Out (List PV)) (x : PV) (st : ST) : Out (List PV) := match putTo tg x (wipeS st ws) with
  | some st => (t st).bind fun b st => if b then (k st).bind fun ps st => .ok ps (wipeS st ws) else .ok [] (wipeS st ws)
  | none => .bad
mutual
def ev (C : Ctx) : E → ST → Out ER
  | .c p, st => .ok (.v p) st
  | .gc _ p, st => .ok (.v p) st
  | .var i, st => match envAt st i with
    | some (.v p) => .ok (.v p) st
    | some (.own _) => .ok (.slot i) st
    | none => .bad
  | .bin op a b, st => (ev C a st).bind fun x st => (ev C b st).bind fun y st => lift (binO op (x.get st) (y.get st)) st
  | .neg a, st => (ev C a st).bind fun x st => match x.get st with
    | .v (.int i) => .ok (.v (.int (-i))) st
    | _ => .bad
  | .not a, st => (ev C a st).bind fun x st => (lift (truthy (x.get st)) st).bind fun b st => .ok (.v (.bl (!b))) st
  | .and a b, st => (ev C a st).bind fun x st => match asBool x st with
    | some true => ev C b st
    | some false => .ok (.v (.bl false)) st
    | none => .bad
  | .or a b, st => (ev C a st).bind fun x st => match asBool x st with
    | some true => .ok (.v (.bl true)) st
    | some false => ev C b st
    | none => .bad
  | .cmp op a b, st => (ev C a st).bind fun x st => (ev C b st).bind fun y st => (lift (cmpO op (x.get st) (y.get st)) st).bind fun r st => .ok (.v (.bl r)) st
  | .chain o1 o2 a b d, st => (ev C a st).bind fun x st => (ev C b st).bind fun y st => (lift (cmpO o1 (x.get st) (y.get st)) st).bind fun r st =>
      if r then (ev C d st).bind fun z st => (lift (cmpO o2 (y.get st) (z.get st)) st).bind fun r st => .ok (.v (.bl r)) st else .ok (.v (.bl false)) st
  | .ifx t a b, st => (tst C t st).bind fun r st => if r then ev C a st else ev C b st
  | .tup es, st => (evL C es st).bind fun xs st => match frzL xs st with
    | some (ps, st) => if ps.length ≤ line then .ok (.v (.tup ps)) st else .bad
    | none => .bad
  | .lst es, st => (evL C es st).bind fun xs st => match frzL xs st with
    | some (ps, st) => if ps.length ≤ line then .ok (.own (.lst ps)) st else .bad
    | none => .bad
  | .dnew t, st => .ok (.own (.dct t [])) st
  | .idx a b, st => (ev C a st).bind fun x st => (ev C b st).bind fun y st => (lift (ixO (x.get st) (y.get st)) st).bind fun p st => .ok (.v p) st
  | .sl a lo hi, st => (ev C a st).bind fun x st => (evO C lo st).bind fun l st => (evO C hi st).bind fun h st => lift (slO (x.get st) l h) st
  | .call f as, st => (evL C as st).bind fun xs st => callO C f xs st
  | .callp f ps as ks, st => (evL C as st).bind fun xs st => (evL C ks st).bind fun ys st => match pickA (xs ++ ys) ps with
    | some zs => if (pickIx ps).Nodup then callO C f zs st else .bad
    | none => .bad
  | .blt f as, st => (evL C as st).bind fun xs st => lift (bltO f (xs.map (ER.get st))) st
  | .meth m o as, st => (ev C o st).bind fun x st => if recvOk m (x.get st) then (evL C as st).bind fun xs st => lift (methO m (x.get st) (xs.map (ER.get st))) st else .bad
  | .mut m i as, st => if ownsL st i then (evL C as st).bind fun xs st => match frzL xs st with
    | some (ps, st) => match envAt st i with
      | some (.own (.lst xs)) => match mutO m xs ps with
        | some (r, xs') => .ok (.v r) (st.put i (some (.own (.lst xs'))))
        | none => .bad
      | _ => .bad
    | none => .bad else .bad
  | .lc ws tg it cond elt, st => (evI C it st).bind fun xs st =>
      (noExc (mapO (lcF tg ws (fun st => tst C cond st) (fun st => frzO (ev C elt st) fun p st => .ok [p] st)) xs st)).bind fun ps st => if ps.length ≤ line then .ok (.own (.lst ps)) st else .bad
  | .lco ws tg i cond elt, st => match envAt st i with
    | some (.own (.lst xs)) => (noExc (mapO (lcF tg ws (fun st => tst C cond st) (fun st => frzO (ev C elt st) fun p st => .ok [p] st)) xs (st.put i none))).bind fun ps st => if ps.length ≤ line then .ok (.own (.lst ps)) (st.put i (some (.own (.lst xs)))) else .bad
    | _ => .bad
  | .lc2 ws ws1 tg it cond tg1 it1 cond1 elt, st => (evI C it st).bind fun xs st =>
      (noExc (mapO (lcF tg ws (fun st => tst C cond st) (fun st => (evI C it1 st).bind fun ys st =>
        mapO (lcF tg1 ws1 (fun st => tst C cond1 st) (fun st => frzO (ev C elt st) fun p st => .ok [p] st)) ys st)) xs st)).bind fun ps st => if ps.length ≤ line then .ok (.own (.lst ps)) st else .bad
  | .dc ws tg it k v, st => (evI C it st).bind fun xs st =>
      (noExc (foldO (fun x kvs st => match putTo tg x (wipeS st ws) with
        | some st => frzO (ev C k st) fun p st => frzO (ev C v st) fun q st => (lift (dcPut false kvs p q) st).bind fun kvs st => .ok kvs (wipeS st ws)
        | none => .bad) xs [] st)).bind fun kvs st => .ok (.own (.dct false kvs)) st
  | .isi a cls, st => (ev C a st).bind fun x st => (lift (isiO (x.get st) cls) st).bind fun b st => .ok (.v (.bl b)) st
  | .fstr es, st => (evL C es st).bind fun xs st => match sayAll st xs with
    | some z => if z.length ≤ 4096 then .ok (.v (.str z)) st else .bad
    | none => .bad
  | .bad, _ => .bad
def evO (C : Ctx) : OE → ST → Out (Option Int)
  | .no, st => .ok none st
  | .yes e, st => (ev C e st).bind fun x st => match x.get st with
    | .v (.int i) => .ok (some i) st
    | _ => .bad
def evL (C : Ctx) : EL → ST → Out (List ER)
  | .nil, st => .ok [] st
  | .cons e r, st => (ev C e st).bind fun x st => (evL C r st).bind fun xs st => .ok (x :: xs) st
def evI (C : Ctx) : IT → ST → Out (List PV)
  | .seq a, st => frzO (ev C a st) fun p st => lift (itemsOf p) st
  | .rng1 a, st => (ev C a st).bind fun x st => lift (rngO (x.get st)) st
  | .rng2 a b, st => (ev C a st).bind fun x st => (ev C b st).bind fun y st => lift (rngO2 (x.get st) (y.get st)) st
  | .rng3 a b c, st => (ev C a st).bind fun x st => (ev C b st).bind fun y st => (ev C c st).bind fun z st => lift (rngO3 (x.get st) (y.get st) (z.get st)) st
  | .rev1 a, st => (ev C a st).bind fun x st => lift (revO (x.get st)) st
def tst (C : Ctx) : T → ST → Out Bool
  | .tt, st => .ok true st
  | .and a b, st => (tst C a st).bind fun r st => if r then tst C b st else .ok false st
  | .or a b, st => (tst C a st).bind fun r st => if r then .ok true st else tst C b st
  | .not a, st => (tst C a st).bind fun r st => .ok (!r) st
  | .e a, st => (ev C a st).bind fun x st => lift (truthy (x.get st)) st
end
end Q
end
section
namespace Q
open PySem
/-! ### statements, functions -/
inductive SO where
  | nx (st : ST) | ret (r : ER) (st : ST) | bk (st : ST) | ct (st : ST) | exc (x : XV) (st : ST) | bad
def Out.so {α : Type} (o : Out α) (f : α → ST → SO) : SO := match o with
  | .ok a st => f a st
  | .exc x st => .exc x st
  | .bad => .bad
@[simp] theorem so_ok {α : Type} (a : α) (st : ST) (f : α → ST → SO) : (Out.ok a st).so f = f a st := rfl
@[simp] theorem so_exc {α : Type} (x : XV) (st : ST) (f : α → ST → SO) : (Out.exc x st : Out α).so f = .exc x st := rfl
@[simp] theorem so_bad {α : Type} (f : α → ST → SO) : (Out.bad : Out α).so f = .bad := rfl
def SO.seq (o : SO) (f : ST → SO) : SO := match o with
  | .nx st => f st
  | o => o
@[simp] theorem seq_nx (st : ST) (f : ST → SO) : (SO.nx st).seq f = f st := rfl
@[simp] theorem seq_ret (r : ER) (st : ST) (f : ST → SO) : (SO.ret r st).seq f = .ret r st := rfl
@[simp] theorem seq_bk (st : ST) (f : ST → SO) : (SO.bk st).seq f = .bk st := rfl
@[simp] theorem seq_ct (st : ST) (f : ST → SO) : (SO.ct st).seq f = .ct st := rfl
@[simp] theorem seq_exc (x : XV) (st : ST) (f : ST → SO) : (SO.exc x st).seq f = .exc x st := rfl
@[simp] theorem seq_bad (f : ST → SO) : SO.bad.seq f = .bad := rfl
def nxO : Option ST → SO
  | some st => .nx st
  | none => .bad
@[simp] theorem nxO_some (st : ST) : nxO (some st) = .nx st := rfl
@[simp] theorem nxO_none : nxO none = .bad := rfl
/-- behind a turn of a loop -/
def SO.turn (o : SO) (f : ST → SO) : SO := match o with
  | .nx st => f st
  | .ct st => f st
  | .bk st => .nx st
  | o => o
@[simp] theorem turn_nx (st : ST) (f : ST → SO) : (SO.nx st).turn f = f st := rfl
@[simp] theorem turn_ct (st : ST) (f : ST → SO) : (SO.ct st).turn f = f st := rfl
@[simp] theorem turn_bk (st : ST) (f : ST → SO) : (SO.bk st).turn f = .nx st := rfl
@[simp] theorem turn_ret (r : ER) (st : ST) (f : ST → SO) : (SO.ret r st).turn f = .ret r st := rfl
@[simp] theorem turn_exc (x : XV) (st : ST) (f : ST → SO) : (SO.exc x st).turn f = .exc x st := rfl
@[simp] theorem turn_bad (f : ST → SO) : SO.bad.turn f = .bad := rfl
def forO (h : PV → ST → SO) : List PV → ST → SO
  | [], st => .nx st
  | x :: r, st => (h x st).turn fun st => forO h r st
def whlO (c : ST → Out Bool) (b : ST → SO) : Nat → ST → SO
  | 0, _ => .bad
  | n + 1, st => (c st).so fun r st => if r then (b st).turn fun st => whlO c b n st else .nx st
def isFlat : DV → Bool
  | .v (.int _) => true
  | .v (.str _) => true
  | _ => false
def subO (C : Ctx) (i : Nat) (k p : PV) (st : ST) : Option ST := match envAt st i with
  | some (.own (.lst xs)) => match k with
    | .int n => (ixN xs.length n).map fun j => st.put i (some (.own (.lst (xs.set j p))))
    | _ => none
  | some (.own (.dct t kvs)) => if keyOk t k && decide (kvs.length < line) then some (st.put i (some (.own (.dct t (dPut kvs k p))))) else none
  | _ => none
def ownsD (st : ST) (i : Nat) : Bool := match envAt st i with
  | some (.own _) => true
  | _ => false
mutual
def ex (C : Ctx) : S → ST → SO
  | .asg t e, st => match t with
    | .v i => (ev C e st).so fun x st => nxO (store C i x st)
    | .t is => (frzO (ev C e st) fun p st => lift (stTg C (.t is) p st) st).so fun st' _ => .nx st'
  | .par is es, st => (evL C es st).so fun xs st => match frzSl xs st with
    | some (ys, st) => nxO (storeAll C is ys st)
    | none => .bad
  | .aug i op e, st => match envAt st i with
    | some (.v (.int a)) => (ev C e st).so fun x st => if C.ro i then .bad else match op, x.get st with
      | .Add, .v (.int b) => .nx (st.put i (some (.v (.int (a + b)))))
      | _, _ => .bad
    | _ => .bad
  | .sub i k e, st => if ownsD st i then (frzO (ev C e st) fun p st => frzO (ev C k st) fun k st => lift (subO C i k p st) st).so fun st' _ => .nx st' else .bad
  | .ex e, st => (ev C e st).so fun _ st => .nx st
  | .ife t a b, st => (tst C t st).so fun r st => if r then exs C a st else exs C b st
  | .for_ t it b, st => (evI C it st).so fun xs st => forO (fun x st => (nxO (stTg C t x st)).seq fun st => exs C b st) xs st
  | .whl t b, st => whlO (fun st => tst C t st) (fun st => exs C b st) C.fuel st
  | .ret e, st => (ev C e st).so fun x st => .ret x st
  | .retn, st => .ret (.v .non) st
  | .brk, st => .bk st
  | .cnt, st => .ct st
  | .pass, st => .nx st
  | .raise cls m, st => .exc ⟨cls, none⟩ st
  | .bad, _ => .bad
def exs (C : Ctx) : SL → ST → SO
  | .nil, st => .nx st
  | .cons s r, st => (ex C s st).seq fun st => exs C r st
end
/-- arguments of parameters that are stored anew are values -/
def frzArg : SV → Option SV
  | .v p => some (.v p)
  | .own (.lst xs) => some (.v (.lst xs))
  | _ => none
def frzArgs (re : List Nat) : Nat → List SV → Option (List SV)
  | _, [] => some []
  | i, a :: r => match (if re.contains i then frzArg a else some a), frzArgs re (i + 1) r with
    | some b, some c => some (b :: c)
    | _, _ => none
/-- a list that was handed over comes back, changed or as a value -/
def okBack : SV → SV → Bool
  | .own _, .own _ => true
  | .own _, .v (.lst _) => true
  | .v _, .v _ => true
  | _, _ => false
/-- what the caller finds in its own behind the call -/
def finals (re : List Nat) (e : Env) : Nat → List SV → Option (List SV)
  | _, [] => some []
  | i, a :: r => match (if re.contains i then some a else ((e[i]?).join).bind fun b => if okBack a b then some b else none), finals re e (i + 1) r with
    | some b, some c => some (b :: c)
    | _, _ => none
def retO (f : Fn) (as : List SV) (r : ER) (st : ST) : COut :=
  let go (r : SV) (st : ST) : COut := match finals f.re st.env 0 as with
    | some bs => .ret r bs st.g
    | none => .bad
  match r with
  | .v p => go (.v p) st
  | .own d => go (.own d) st
  | .slot i => if i < f.np && !f.re.contains i then (match ER.frz st (.slot i) with
      | some (p, st') => go (.v p) st'
      | none => .bad) else match envAt st i with
    | some a => go a st
    | none => .bad
abbrev Tbl := Str → Option Fn
def whileFuel : Nat := 1000000
def callN (T : Tbl) : Nat → Str → List SV → List GI → COut
  | 0, _, _, _ => .bad
  | n + 1, f, as, g => match T f with
    | none => .bad
    | some fn => if as.length = fn.np then (match frzArgs fn.re 0 as with
      | none => .bad
      | some bs => match exs ⟨callN T n, fn.np, fn.re, whileFuel⟩ fn.body ⟨bs.map some ++ List.replicate (fn.n - fn.np) none, g⟩ with
        | .nx st => retO fn bs (.v .non) st
        | .ret r st => retO fn bs r st
        | .exc x st => (match finals fn.re st.env 0 bs with | some cs => .exc x cs st.g | none => .bad)
        | _ => .bad) else .bad
end Q
end
section
namespace Q
open PySem L2
/-- the instances' addresses; lists that are being made -/
structure Gm where
  obj : List Addr
  lock : List Addr
def Gm.has (γ : Gm) (a : Addr) : Prop := a ∈ γ.obj ∨ a ∈ γ.lock
/-! ### how the values stand in the heap -/
/-- a list of the written part -/
def KSq (K : PySem.W.Frag) (a : Addr) (xs : List V) : Prop := ∃ (o : Obj) (its : Array Value) (n : Nat), K.lookup a = some o ∧ o.cls = .type "list" ∧ o.dict = none ∧ o.data = .seq its n ∧ its.size ≤ sizeLine ∧ Vals xs its.toList
mutual
inductive Rep (K : PySem.W.Frag) (H : Hp) (Mu : Addr → Prop) (γ : Gm) : V → PV → Prop
  | non : Rep K H Mu γ .non .non
  | bl (b : Bool) : Rep K H Mu γ (.bl b) (.bl b)
  | int (i : Int) : Rep K H Mu γ (.int i) (.int i)
  | str (x : Str) : Rep K H Mu γ (.str x) (.str x)
  | tup {a : Addr} {vs : List V} {xs : List PV} : H a = some (.tup vs) → ¬ Mu a → Reps K H Mu γ vs xs → Rep K H Mu γ (.ref a) (.tup xs)
  | lst {a : Addr} {vs : List V} {xs : List PV} : H a = some (.lst vs) → ¬ Mu a → Reps K H Mu γ vs xs → Rep K H Mu γ (.ref a) (.lst xs)
  | scr {a : Addr} {ns : List Int} : (Rd H a (.lst (ns.map V.int)) ∧ ¬ Mu a) ∨ KSq K a (ns.map V.int) → Rep K H Mu γ (.ref a) (.scr ns)
  | obj {a : Addr} {n : Nat} : γ.obj[n]? = some a → Rep K H Mu γ (.ref a) (.obj n)
inductive Reps (K : PySem.W.Frag) (H : Hp) (Mu : Addr → Prop) (γ : Gm) : List V → List PV → Prop
  | nil : Reps K H Mu γ [] []
  | cons {v : V} {vs : List V} {x : PV} {xs : List PV} : Rep K H Mu γ v x → Reps K H Mu γ vs xs → Reps K H Mu γ (v :: vs) (x :: xs)
end
def KeyR : Key → PV → Prop
  | .inl i, .int j => i = j
  | .inr x, .str y => x = y
  | _, _ => False
abbrev KeyRs : List Key → List PV → Prop := Paired KeyR
def KTup (k : List Key) (p : PV) : Prop := ∃ xs, p = .tup xs ∧ KeyRs k xs
/-- an object that a slot owns, at a -/
def OwnR (K : PySem.W.Frag) (H : Hp) (Mu : Addr → Prop) (γ : Gm) (a : Addr) : LD → Prop
  | .lst xs => ∃ vs, H a = some (.lst vs) ∧ Reps K H Mu γ vs xs
  | .dct false kvs => ∃ ks : List (Key × V), H a = some (.dK ks) ∧ Paired (fun k p => KeyR k.1 p.1 ∧ Rep K H Mu γ k.2 p.2) ks kvs
  | .dct true kvs => ∃ ks : List (List Key × V), H a = some (.dT ks) ∧ Paired (fun k p => KTup k.1 p.1 ∧ Rep K H Mu γ k.2 p.2) ks kvs
def SvR (K : PySem.W.Frag) (H : Hp) (Mu : Addr → Prop) (γ : Gm) (v : V) : SV → Prop
  | .v p => Rep K H Mu γ v p
  | .own d => ∃ a, v = .ref a ∧ OwnR K H Mu γ a d
/-- what may be changed: the objects that the slots own, the instances -/
def Mu (γ : Gm) (σ : L2.St) (st : ST) (a : Addr) : Prop := γ.has a ∨ ∃ i d, envAt st i = some (.own d) ∧ σ[i]? = some (some (.ref a))
structure Sim (K : PySem.W.Frag) (H : Hp) (γ : Gm) (σ : L2.St) (st : ST) : Prop where
  len : st.env.length = σ.length
  sv : ∀ (i : Nat) (s : SV), envAt st i = some s → ∃ v, σ[i]? = some (some v) ∧ SvR K H (Mu γ σ st) γ v s
  inj : ∀ (i j : Nat) (d d' : LD) (a : Addr), envAt st i = some (.own d) → envAt st j = some (.own d') → σ[i]? = some (some (.ref a)) → σ[j]? = some (some (.ref a)) → i = j
  gl : ∀ a, γ.has a → ∃ o, H a = some o
  sep : ∀ (i : Nat) (d : LD) (a : Addr), envAt st i = some (.own d) → σ[i]? = some (some (.ref a)) → ¬ γ.has a
  g0 : γ.obj = [] ∧ st.g = []
structure Tr (H : Hp) (M : Addr → Prop) (γ : Gm) (H' : Hp) (M' : Addr → Prop) (γ' : Gm) : Prop where
  keep : ∀ a o, H a = some o → (¬ M a ∨ a ∈ γ.lock) → H' a = some o
  lock : ∀ a, a ∈ γ.lock → a ∈ γ'.lock
  dom : ∀ a, H' a = none → H a = none
  mu : ∀ a, M' a → M a ∨ H a = none
  gam : ∃ e, γ'.obj = γ.obj ++ e
def ErR (K : PySem.W.Frag) (H0 H : Hp) (γ : Gm) (σ : L2.St) (st : ST) (v : V) : ER → Prop
  | .v p => Rep K H (Mu γ σ st) γ v p
  | .own d => ∃ a, v = .ref a ∧ H0 a = none ∧ a ∈ γ.lock ∧ OwnR K H (Mu γ σ st) γ a d
  | .slot i => σ[i]? = some (some v)
def DvR (K : PySem.W.Frag) (H : Hp) (M : Addr → Prop) (γ : Gm) (v : V) : DV → Prop
  | .v p => Rep K H M γ v p
  | .d l => ∃ a, v = .ref a ∧ OwnR K H M γ a l
  | .bad => True

theorem Tr.refl {H : Hp} {M : Addr → Prop} {γ : Gm} : Tr H M γ H M γ := ⟨fun _ _ h _ => h, fun _ h => h, fun _ h => h, fun _ h => .inl h, ⟨[], by simp⟩⟩
theorem Tr.trans {H H1 H2 : Hp} {M M1 M2 : Addr → Prop} {γ γ1 γ2 : Gm} (a : Tr H M γ H1 M1 γ1) (b : Tr H1 M1 γ1 H2 M2 γ2) : Tr H M γ H2 M2 γ2 := by
  refine ⟨fun x o h n => b.keep x o (a.keep x o h n) ?_, fun x h => b.lock x (a.lock x h), fun x h => a.dom x (b.dom x h), fun x m => ?_, ?_⟩
  · rcases n with n | n
    · refine .inl fun m => ?_
      rcases a.mu x m with z | z
      · exact n z
      · rw [h] at z; cases z
    · exact .inr (a.lock x n)
  · rcases b.mu x m with z | z
    · exact a.mu x z
    · exact .inr (a.dom x z)
  · obtain ⟨e, h⟩ := a.gam
    obtain ⟨e', h'⟩ := b.gam
    exact ⟨e ++ e', by rw [h', h, List.append_assoc]⟩
section
variable {K : PySem.W.Frag} {H H' : Hp} {M M' : Addr → Prop} {γ γ' : Gm}
theorem Tr.not (t : Tr H M γ H' M' γ') {a : Addr} {o : HO} (h : H a = some o) (n : ¬ M a) : ¬ M' a := fun m => by
  rcases t.mu a m with z | z
  · exact n z
  · rw [h] at z; cases z
theorem Tr.rd (t : Tr H M γ H' M' γ') {a : Addr} {o : HO} (h : Rd H a o) (n : ¬ M a) : Rd H' a o ∧ ¬ M' a := by
  rcases h with h | ⟨u, h⟩
  · exact ⟨.inl (t.keep _ _ h (.inl n)), t.not h n⟩
  · exact ⟨.inr ⟨u, t.keep _ _ h (.inl n)⟩, t.not h n⟩
mutual
theorem Rep.tr (t : Tr H M γ H' M' γ') : ∀ {p : PV} {v : V}, Rep K H M γ v p → Rep K H' M' γ' v p
  | .non, _, h => by cases h; exact .non
  | .bl b, _, h => by cases h; exact .bl b
  | .int b, _, h => by cases h; exact .int b
  | .str b, _, h => by cases h; exact .str b
  | .tup xs, _, h => by
    cases h with
    | tup h n r => exact .tup (t.keep _ _ h (.inl n)) (t.not h n) (Reps.tr t r)
  | .lst xs, _, h => by
    cases h with
    | lst h n r => exact .lst (t.keep _ _ h (.inl n)) (t.not h n) (Reps.tr t r)
  | .scr ns, _, h => by
    cases h with
    | scr h =>
      rcases h with ⟨h, n⟩ | h
      · exact .scr (.inl (t.rd h n))
      · exact .scr (.inr h)
  | .obj n, _, h => by
    cases h with
    | obj h =>
      obtain ⟨e, he⟩ := t.gam
      refine .obj ?_
      rw [he, List.getElem?_append_left (List.getElem?_eq_some_iff.mp h).1]
      exact h
theorem Reps.tr (t : Tr H M γ H' M' γ') : ∀ {xs : List PV} {vs : List V}, Reps K H M γ vs xs → Reps K H' M' γ' vs xs
  | [], _, h => by cases h; exact .nil
  | x :: xs, _, h => by
    cases h with
    | cons a b => exact .cons (Rep.tr t a) (Reps.tr t b)
end
theorem Reps.len : ∀ {xs : List PV} {vs : List V}, Reps K H M γ vs xs → vs.length = xs.length
  | _, _, .nil => rfl
  | _, _, .cons _ r => by rw [List.length_cons, List.length_cons, Reps.len r]
theorem Reps.get : ∀ {xs : List PV} {vs : List V} {i : Nat} {x : PV}, Reps K H M γ vs xs → xs[i]? = some x → ∃ v, vs[i]? = some v ∧ Rep K H M γ v x
  | _, _, _, _, .nil, e => by simp at e
  | _, _, 0, _, .cons r _, e => by simp at e; subst e; exact ⟨_, rfl, r⟩
  | _, _, i + 1, x, .cons _ t, e => by
    obtain ⟨u, h1, h2⟩ := Reps.get (i := i) (x := x) t (by simpa using e)
    exact ⟨u, by simpa using h1, h2⟩
theorem Reps.app : ∀ {xs ys : List PV} {vs ws : List V}, Reps K H M γ vs xs → Reps K H M γ ws ys → Reps K H M γ (vs ++ ws) (xs ++ ys)
  | _, _, _, _, .nil, s => s
  | _, _, _, _, .cons r t, s => .cons r (Reps.app t s)
theorem Reps.take : ∀ {xs : List PV} {vs : List V} (n : Nat), Reps K H M γ vs xs → Reps K H M γ (vs.take n) (xs.take n)
  | _, _, 0, _ => .nil
  | _, _, _ + 1, .nil => .nil
  | _, _, n + 1, .cons r t => .cons r (Reps.take n t)
theorem Reps.drop : ∀ {xs : List PV} {vs : List V} (n : Nat), Reps K H M γ vs xs → Reps K H M γ (vs.drop n) (xs.drop n)
  | _, _, 0, r => r
  | _, _, _ + 1, .nil => .nil
  | _, _, n + 1, .cons _ t => Reps.drop n t
theorem Reps.set {v : V} {x : PV} (r : Rep K H M γ v x) : ∀ {xs : List PV} {vs : List V} (i : Nat), Reps K H M γ vs xs → Reps K H M γ (vs.set i v) (xs.set i x)
  | _, _, _, .nil => .nil
  | _, _, 0, .cons _ t => .cons r t
  | _, _, i + 1, .cons q t => .cons q (Reps.set r i t)
theorem Reps.ints : ∀ (ns : List Int), Reps K H M γ (ns.map V.int) (ns.map PV.int)
  | [] => .nil
  | n :: r => .cons (.int n) (Reps.ints r)
theorem Reps.strs : ∀ (ns : List Str), Reps K H M γ (ns.map V.str) (ns.map PV.str)
  | [] => .nil
  | n :: r => .cons (.str n) (Reps.strs r)
theorem Paired.imp2 {α β : Type} {F G : α → β → Prop} : ∀ {l₁ : List α} {l₂ : List β}, Paired F l₁ l₂ → (∀ a b, F a b → G a b) → Paired G l₁ l₂
  | _, _, .nil, _ => .nil
  | _, _, .cons r t, f => .cons (f _ _ r) (Paired.imp2 t f)
/-- an owned object whose own address is kept -/
theorem OwnR.tr' (t : Tr H M γ H' M' γ') {a : Addr} {d : LD} (h : OwnR K H M γ a d) (hk : ∀ o, H a = some o → H' a = some o) : OwnR K H' M' γ' a d := by
  cases d with
  | lst xs =>
    obtain ⟨vs, e, r⟩ := h
    exact ⟨vs, hk _ e, Reps.tr t r⟩
  | dct b kvs =>
    cases b with
    | false =>
      obtain ⟨ks, e, r⟩ := h
      exact ⟨ks, hk _ e, Paired.imp2 r fun _ _ z => ⟨z.1, Rep.tr t z.2⟩⟩
    | true =>
      obtain ⟨ks, e, r⟩ := h
      exact ⟨ks, hk _ e, Paired.imp2 r fun _ _ z => ⟨z.1, Rep.tr t z.2⟩⟩
theorem OwnR.some {a : Addr} {d : LD} (h : OwnR K H M γ a d) : ∃ o, H a = some o := by
  cases d with
  | lst xs => obtain ⟨vs, e, r⟩ := h; exact ⟨_, e⟩
  | dct b kvs => cases b <;> (obtain ⟨vs, e, r⟩ := h; exact ⟨_, e⟩)
theorem OwnR.tr (t : Tr H M γ H' M' γ') {a : Addr} {d : LD} (h : OwnR K H M γ a d) (n : ¬ M a ∨ a ∈ γ.lock) : OwnR K H' M' γ' a d := h.tr' t fun o e => t.keep a o e n
end
section
variable {K : PySem.W.Frag} {H0 H H' : Hp} {γ γ' : Gm} {σ : L2.St} {st st' : ST} {v : V}
theorem Sim.muSome (S : Sim K H γ σ st) {a : Addr} (m : Mu γ σ st a) : ∃ o, H a = some o := by
  rcases m with m | ⟨i, d, h1, h2⟩
  · exact S.gl a m
  · obtain ⟨v, e, r⟩ := S.sv i _ h1
    rw [h2] at e; cases e
    obtain ⟨b, e, r⟩ := r
    cases e
    exact r.some
theorem Sim.fresh (S : Sim K H γ σ st) {a : Addr} (h : H a = none) : ¬ Mu γ σ st a := fun m => by
  obtain ⟨o, e⟩ := S.muSome m
  rw [h] at e; cases e
/-- the heap has grown -/
theorem Tr.ext {M : Addr → Prop} (h : ∀ a o, H a = some o → H' a = some o) : Tr H M γ H' M γ := by
  refine ⟨fun a o e _ => h a o e, fun _ m => m, fun a e => ?_, fun _ m => .inl m, ⟨[], by simp⟩⟩
  cases q : H a with
  | none => rfl
  | some o => rw [h a o q] at e; cases e
theorem Sim.ext (S : Sim K H γ σ st) (h : ∀ a o, H a = some o → H' a = some o) : Sim K H' γ σ st :=
  ⟨S.len, fun i s e => by
    obtain ⟨v, e1, r⟩ := S.sv i s e
    refine ⟨v, e1, ?_⟩
    cases s with
    | v p => exact Rep.tr (Tr.ext h) r
    | own d =>
      obtain ⟨a, e2, r⟩ := r
      exact ⟨a, e2, r.tr' (Tr.ext h) fun o q => h a o q⟩, S.inj, fun a m => by
    obtain ⟨o, e⟩ := S.gl a m
    exact ⟨o, h a o e⟩, S.sep, S.g0⟩
theorem upd_ext {p : Addr} {o : HO} (h : H p = none) : ∀ a u, H a = some u → upd H p o a = some u := fun a u e => by
  rw [upd_ne fun z => by rw [z, h] at e; cases e]
  exact e
theorem ErR.dv (S : Sim K H γ σ st) {e : ER} (r : ErR K H0 H γ σ st v e) : DvR K H (Mu γ σ st) γ v (e.get st) := by
  cases e with
  | v p => exact r
  | own d =>
    obtain ⟨a, h1, _, _, h4⟩ := r
    exact ⟨a, h1, h4⟩
  | slot i =>
    unfold ER.get
    dsimp only
    cases q : envAt st i with
    | none => trivial
    | some s =>
      obtain ⟨v', e1, r'⟩ := S.sv i s q
      have r0 : σ[i]? = some (some v) := r
      rw [r0] at e1; cases e1
      cases s with
      | v p => exact r'
      | own d => exact r'
/-- a result carried over a further evaluation -/
theorem ErR.tr (t : Tr H (Mu γ σ st) γ H' (Mu γ' σ st') γ') {e : ER} (r : ErR K H0 H γ σ st v e) : ErR K H0 H' γ' σ st' v e := by
  cases e with
  | v p => exact Rep.tr t r
  | own d =>
    obtain ⟨a, h1, h2, h3, h4⟩ := r
    obtain ⟨o, ho⟩ := h4.some
    exact ⟨a, h1, h2, t.lock a h3, h4.tr t (.inr h3)⟩
  | slot i => exact r
/-- .. seen from an earlier heap -/
theorem ErR.old {H00 : Hp} (h : ∀ a, H0 a = none → H00 a = none) {e : ER} (r : ErR K H0 H γ σ st v e) : ErR K H00 H γ σ st v e := by
  cases e with
  | v p => exact r
  | own d =>
    obtain ⟨a, h1, h2, h3, h4⟩ := r
    exact ⟨a, h1, h a h2, h3, h4⟩
  | slot i => exact r

/-- .. of new lists that are free to be values -/
def ErU (K : PySem.W.Frag) (H : Hp) (γ : Gm) (σ : L2.St) (st : ST) (v : V) : ER → Prop
  | .v p => Rep K H (Mu γ σ st) γ v p
  | .own d => ∃ a, v = .ref a ∧ ¬ Mu γ σ st a ∧ OwnR K H (Mu γ σ st) γ a d
  | .slot i => σ[i]? = some (some v)
def Gm.at (γ γs : Gm) : Gm := ⟨γ.obj, γs.lock⟩
def Gm.add (γ : Gm) (a : Addr) : Gm := ⟨γ.obj, a :: γ.lock⟩
section
variable {γs : Gm} {Hs : Hp} {Ms : Addr → Prop}
theorem mu_at (h : ∀ a, a ∈ γs.lock → a ∈ γ.lock) {a : Addr} (m : Mu (γ.at γs) σ st a) : Mu γ σ st a := by
  rcases m with (m | m) | m
  · exact .inl (.inl m)
  · exact .inl (.inr (h a m))
  · exact .inr m
theorem tr_at (h : ∀ a, a ∈ γs.lock → a ∈ γ.lock) : Tr H (Mu γ σ st) ⟨γ.obj, []⟩ H (Mu (γ.at γs) σ st) (γ.at γs) :=
  ⟨fun _ _ e _ => e, fun _ m => absurd m (by simp), fun _ e => e, fun _ m => .inl (mu_at h m), ⟨[], by simp [Gm.at]⟩⟩
mutual
theorem Rep.gam {M : Addr → Prop} {γ γ' : Gm} (h : γ.obj = γ'.obj) : ∀ {p : PV} {v : V}, Rep K H M γ v p → Rep K H M γ' v p
  | .non, _, h => by cases h; exact .non
  | .bl b, _, h => by cases h; exact .bl b
  | .int b, _, h => by cases h; exact .int b
  | .str b, _, h => by cases h; exact .str b
  | .tup xs, _, w => by
    cases w with
    | tup a n r => exact .tup a n (Reps.gam h r)
  | .lst xs, _, w => by
    cases w with
    | lst a n r => exact .lst a n (Reps.gam h r)
  | .scr ns, _, w => by
    cases w with
    | scr a => exact .scr a
  | .obj n, _, w => by
    cases w with
    | obj a => exact .obj (by rw [← h]; exact a)
theorem Reps.gam {M : Addr → Prop} {γ γ' : Gm} (h : γ.obj = γ'.obj) : ∀ {xs : List PV} {vs : List V}, Reps K H M γ vs xs → Reps K H M γ' vs xs
  | [], _, w => by cases w; exact .nil
  | x :: xs, _, w => by
    cases w with
    | cons a b => exact .cons (Rep.gam h a) (Reps.gam h b)
end
theorem OwnR.gam {M : Addr → Prop} {γ γ' : Gm} (h : γ.obj = γ'.obj) {a : Addr} {d : LD} (w : OwnR K H M γ a d) : OwnR K H M γ' a d := by
  cases d with
  | lst xs =>
    obtain ⟨vs, e, r⟩ := w
    exact ⟨vs, e, Reps.gam h r⟩
  | dct b kvs =>
    cases b <;> (obtain ⟨ks, e, r⟩ := w; exact ⟨ks, e, Paired.imp2 r fun _ _ z => ⟨z.1, Rep.gam h z.2⟩⟩)
/-- the new lists are let go -/
theorem Sim.unlock (S : Sim K H γ σ st) (h : ∀ a, a ∈ γs.lock → a ∈ γ.lock) : Sim K H (γ.at γs) σ st := by
  refine ⟨S.len, fun i s e => ?_, S.inj, fun a m => S.gl a ?_, fun i d a e q m => S.sep i d a e q ?_, S.g0⟩
  · obtain ⟨v, e1, r⟩ := S.sv i s e
    refine ⟨v, e1, ?_⟩
    cases s with
    | v p => exact Rep.tr (tr_at h) (Rep.gam (γ := γ) (γ' := ⟨γ.obj, []⟩) rfl r)
    | own d =>
      obtain ⟨a, e2, r⟩ := r
      exact ⟨a, e2, (OwnR.gam (γ := γ) (γ' := ⟨γ.obj, []⟩) rfl r).tr' (tr_at h) fun o q => q⟩
  · rcases m with m | m
    · exact .inl m
    · exact .inr (h a m)
  · rcases m with m | m
    · exact .inl m
    · exact .inr (h a m)
theorem Tr.unlock (T : Tr Hs Ms γs H (Mu γ σ st) γ) : Tr Hs Ms γs H (Mu (γ.at γs) σ st) (γ.at γs) :=
  ⟨T.keep, fun _ m => m, T.dom, fun a m => T.mu a (mu_at T.lock m), T.gam⟩
theorem ErR.unlock (T : Tr Hs Ms γs H (Mu γ σ st) γ) (hL : ∀ a, a ∈ γs.lock → Hs a ≠ none) (S : Sim K H γ σ st) {e : ER} (r : ErR K Hs H γ σ st v e) : ErU K H (γ.at γs) σ st v e := by
  cases e with
  | v p => exact Rep.tr (tr_at T.lock) (Rep.gam (γ := γ) (γ' := ⟨γ.obj, []⟩) rfl r)
  | own d =>
    obtain ⟨a, h1, h2, h3, h4⟩ := r
    refine ⟨a, h1, fun m => ?_, (OwnR.gam (γ := γ) (γ' := ⟨γ.obj, []⟩) rfl h4).tr' (tr_at T.lock) fun o q => q⟩
    rcases m with (m | m) | ⟨i, d', e, q⟩
    · rw [show (γ.at γs).obj = γ.obj from rfl, S.g0.1] at m; cases m
    · exact hL a m h2
    · exact S.sep i d' a e q (.inr h3)
  | slot i => exact r
end
end
end Q
end
section
namespace Q
open PySem PySem.Spec PyProof.Rows
open L2 hiding cutV
/-! ### operations on values -/
def ResR (K : PySem.W.Frag) (H H' : Hp) (M : Addr → Prop) (γ : Gm) (v : V) : ER → Prop
  | .v p => Rep K H' M γ v p
  | .own d => ∃ a, v = .ref a ∧ H a = none ∧ ∀ M' : Addr → Prop, (∀ b, M' b → M b ∨ b = a) → OwnR K H' M' γ a d
  | .slot _ => False
abbrev Ext (H H' : Hp) : Prop := ∀ a o, H a = some o → H' a = some o
theorem Ext.refl {H : Hp} : Ext H H := fun _ _ h => h
theorem sizeL : sizeLine = line := by rw [sizeLine_eq]; rfl
section
variable {K : PySem.W.Frag} {H H' : Hp} {M : Addr → Prop} {γ : Gm} {v : V}
theorem DvR.lst {x : DV} {xs : List PV} (e : x.lst = some xs) (r : DvR K H M γ v x) : ∃ a vs, v = .ref a ∧ H a = some (.lst vs) ∧ Reps K H M γ vs xs := by
  unfold DV.lst at e
  split at e
  · cases e
    cases r with
    | lst h n r => exact ⟨_, _, rfl, h, r⟩
  · cases e
    obtain ⟨a, e, vs, h, r⟩ := r
    exact ⟨a, vs, e, h, r⟩
  · cases e
theorem KSq.sq {a : Addr} {xs : List V} (h : KSq K a xs) : SqL K H a xs := .inr h
theorem DvR.seq {x : DV} {xs : List PV} (e : x.seq = some xs) (r : DvR K H M γ v x) : ∃ a vs, v = .ref a ∧ (SqL K H a vs ∨ SqT K H a vs) ∧ Reps K H M γ vs xs := by
  unfold DV.seq at e
  split at e
  · cases e
    cases r with
    | tup h n r => exact ⟨_, _, rfl, .inr (SqT.of h), r⟩
  · cases e
    cases r with
    | lst h n r => exact ⟨_, _, rfl, .inl (SqL.of h), r⟩
  · cases e
    cases r with
    | scr h =>
      rcases h with ⟨h, n⟩ | h
      · exact ⟨_, _, rfl, .inl (.inl h), Reps.ints _⟩
      · exact ⟨_, _, rfl, .inl h.sq, Reps.ints _⟩
  · cases e
    obtain ⟨a, e, vs, h, r⟩ := r
    exact ⟨a, vs, e, .inl (SqL.of h), r⟩
  · cases e
mutual
theorem Rep.dp : ∀ {p : PV} {v : V}, Rep K H M γ v p → PyData.canLay0 p.toD = true → Dp K H v p.toD
  | .non, _, h, _ => by cases h; exact .non
  | .bl b, _, h, _ => by cases h; exact .bl b
  | .int b, _, h, _ => by cases h; exact .int b
  | .str b, _, h, _ => by cases h; exact .str b
  | .tup xs, _, h, f => by
    cases h with
    | tup h n r => exact .tup (SqT.of h) (Reps.dp r (by simpa only [PV.toD, PyData.canLay0] using f))
  | .lst xs, _, h, f => by
    cases h with
    | lst h n r => exact .lst (SqL.of h) (Reps.dp r (by simpa only [PV.toD, PyData.canLay0] using f))
  | .scr ns, _, h, f => by simp [PV.toD, PyData.canLay0] at f
  | .obj n, _, h, f => by simp [PV.toD, PyData.canLay0] at f
theorem Reps.dp : ∀ {xs : List PV} {vs : List V}, Reps K H M γ vs xs → PyData.canLayAll0 (PV.toDs xs) = true → DpAll K H vs (PV.toDs xs)
  | [], _, h, _ => by cases h; exact .nil
  | x :: xs, _, h, f => by
    cases h with
    | cons a b =>
      have f' := f
      simp only [PV.toDs, PyData.canLayAll0, Bool.and_eq_true] at f'
      exact .cons (Rep.dp a f'.1) (Reps.dp b f'.2)
end
theorem DvR.dp {x : DV} {p : PV} (e : x.pv = some p) (r : DvR K H M γ v x) (f : PyData.canLay0 p.toD = true) : Dp K H v p.toD := by
  unfold DV.pv at e
  split at e
  · cases e; exact Rep.dp r f
  · cases e
    obtain ⟨a, rfl, vs, h, r⟩ := r
    exact .lst (SqL.of h) (Reps.dp r (by simpa only [PV.toD, PyData.canLay0] using f))
  · cases e
theorem fit_lay {p : PV} (h : p.fit = true) : PyData.canLay0 p.toD = true := SeqAt.canLay_of_shaped h
theorem Reps.intsOf : ∀ {xs : List PV} {vs : List V} {ns : List Int}, Reps K H M γ vs xs → intsOf xs = some ns → vs = ns.map V.int
  | _, _, _, .nil, e => by cases e; rfl
  | .int i :: _, _, ns, .cons a b, e => by
    cases a
    simp only [Q.intsOf, Option.map_eq_some_iff] at e
    obtain ⟨ms, e1, rfl⟩ := e
    rw [Reps.intsOf b e1]; rfl
  | .non :: _, _, _, .cons _ _, e => by cases e
  | .bl _ :: _, _, _, .cons _ _, e => by cases e
  | .str _ :: _, _, _, .cons _ _, e => by cases e
  | .tup _ :: _, _, _, .cons _ _, e => by cases e
  | .lst _ :: _, _, _, .cons _ _, e => by cases e
  | .scr _ :: _, _, _, .cons _ _, e => by cases e
  | .obj _ :: _, _, _, .cons _ _, e => by cases e
theorem Reps.boolsOf : ∀ {xs : List PV} {vs : List V} {ns : List Bool}, Reps K H M γ vs xs → boolsOf xs = some ns → vs = ns.map V.bl
  | _, _, _, .nil, e => by cases e; rfl
  | .bl i :: _, _, ns, .cons a b, e => by
    cases a
    simp only [Q.boolsOf, Option.map_eq_some_iff] at e
    obtain ⟨ms, e1, rfl⟩ := e
    rw [Reps.boolsOf b e1]; rfl
  | .non :: _, _, _, .cons _ _, e => by cases e
  | .int _ :: _, _, _, .cons _ _, e => by cases e
  | .str _ :: _, _, _, .cons _ _, e => by cases e
  | .tup _ :: _, _, _, .cons _ _, e => by cases e
  | .lst _ :: _, _, _, .cons _ _, e => by cases e
  | .scr _ :: _, _, _, .cons _ _, e => by cases e
  | .obj _ :: _, _, _, .cons _ _, e => by cases e
theorem Reps.strsOf : ∀ {xs : List PV} {vs : List V} {ns : List Str}, Reps K H M γ vs xs → strsOf xs = some ns → vs = ns.map V.str
  | _, _, _, .nil, e => by cases e; rfl
  | .str i :: _, _, ns, .cons a b, e => by
    cases a
    simp only [Q.strsOf, Option.map_eq_some_iff] at e
    obtain ⟨ms, e1, rfl⟩ := e
    rw [Reps.strsOf b e1]; rfl
  | .non :: _, _, _, .cons _ _, e => by cases e
  | .int _ :: _, _, _, .cons _ _, e => by cases e
  | .bl _ :: _, _, _, .cons _ _, e => by cases e
  | .tup _ :: _, _, _, .cons _ _, e => by cases e
  | .lst _ :: _, _, _, .cons _ _, e => by cases e
  | .scr _ :: _, _, _, .cons _ _, e => by cases e
  | .obj _ :: _, _, _, .cons _ _, e => by cases e
end
/-- an operation of two values: what it asks -/
def rO2 (K : PySem.W.Frag) (f : DV → DV → Option ER) : R2 := fun x y H Qk => ∃ (M : Addr → Prop) (γ : Gm) (dx dy : DV) (er : ER), DvR K H M γ x dx ∧ DvR K H M γ y dy ∧ (∀ a, M a → H a ≠ none) ∧ f dx dy = some er ∧
  ∀ v H', Ext H H' → ResR K H H' M γ v er → Qk v H'
def bER (o : Option Bool) : Option ER := o.map fun b => .v (.bl b)
section
variable {X : Cx}
theorem fits {n m : Nat} (h : n + m ≤ line) : n + m ≤ sizeLine := by rw [sizeL]; exact h
/-- a new object: carried over -/
theorem reps_new {K : PySem.W.Frag} {H : Hp} {M : Addr → Prop} {γ : Gm} {vs : List V} {xs : List PV} {p : Addr} {o : HO} (hp : H p = none) (r : Reps K H M γ vs xs) : Reps K (upd H p o) M γ vs xs := Reps.tr (Tr.ext (upd_ext hp)) r
/-- the contents of a new object, which nothing there is -/
theorem reps_own {K : PySem.W.Frag} {H : Hp} {M M' : Addr → Prop} {γ : Gm} {vs : List V} {xs : List PV} {p : Addr} {o : HO} (hp : H p = none) (hM : ∀ b, M' b → M b ∨ b = p) (r : Reps K H M γ vs xs) : Reps K (upd H p o) M' γ vs xs := by
  have T := Tr.ext (γ := γ) (M := M) (upd_ext (o := o) hp)
  refine Reps.tr ⟨T.keep, T.lock, T.dom, fun b m => ?_, T.gam⟩ r
  rcases hM b m with z | rfl
  · exact .inl z
  · exact .inr hp
theorem opAdd : OpR X (binaryOp .Add) (rO2 X.K (binO .Add)) := by
  intro pins s σ H x y v u Q I rx ry h
  obtain ⟨M, γ, dx, dy, er, hx, hy, hM, hf, hq⟩ := h
  unfold binO at hf
  split at hf
  · simp only [binI, Option.map_some, Option.some.injEq] at hf
    subst hf
    cases hx; cases hy
    exact op_add pins s σ H _ _ v u Q I rx ry ⟨_, _, rfl, rfl, hq _ _ Ext.refl (Rep.int _)⟩
  · dsimp only at hf
    unfold addO at hf
    split at hf
    · split at hf
      · rename_i hz
        cases hf
        cases hx; cases hy
        exact op_add_str pins s σ H _ _ v u Q I rx ry ⟨_, _, rfl, rfl, fits hz, hq _ _ Ext.refl (Rep.str _)⟩
      · cases hf
    · split at hf
      · rename_i hz
        cases hf
        cases hx with
        | tup h1 n1 r1 =>
          cases hy with
          | tup h2 n2 r2 =>
            refine op_catA pins s σ H _ _ v u Q I rx ry ⟨_, _, _, _, rfl, rfl, SqT.of h1, SqT.of h2, by rw [r1.len, r2.len]; exact fits hz, fun e => ?_, fun e1 e => ?_, fun e1 e2 p hp => ?_⟩
            · subst e
              cases r1
              exact hq _ _ Ext.refl (Rep.tup h2 n2 r2)
            · subst e
              cases r2
              exact hq _ _ Ext.refl (Rep.tup h1 n1 (by rw [List.append_nil]; exact r1))
            · refine hq _ _ (upd_ext hp) (Rep.tup upd_same (fun m => hM p m hp) ?_)
              exact Reps.app (reps_new hp r1) (reps_new hp r2)
      · cases hf
    · split at hf
      · split at hf
        · rename_i e1 e2 hz
          cases hf
          obtain ⟨a, vs, rfl, h1, r1⟩ := hx.lst e1
          obtain ⟨b, ws, rfl, h2, r2⟩ := hy.lst e2
          refine op_cat pins s σ H _ _ v u Q I rx ry ⟨_, _, _, _, rfl, rfl, h1, h2, by rw [r1.len, r2.len]; exact fits hz, fun p hp => ?_⟩
          exact hq _ _ (upd_ext hp) ⟨p, rfl, hp, fun M' hM' => ⟨_, upd_same, Reps.app (reps_own hp hM' r1) (reps_own hp hM' r2)⟩⟩
        · cases hf
      · cases hf

/-- a tuple times 1: it is itself -/
theorem tuple_mulOne (l : Addr) (items : Array Value) (n : Nat) (dd : Option Addr) (sl : Array (Option Value)) (u : Tok) :
    Meets (Builtin.«tuple.__mul__» ⟨[.ref l, .int 1 u], []⟩) (fun _ R s => s.heap.get? l = some { cls := .type "tuple", dict := dd, data := .seq items n, slots := sl } ∧ R (.ok (.ret (Value.ref l))) s) :=
  .of_wp fun prog w A R s h => by
    obtain ⟨hp, g, d, tk, os⟩ := s
    obtain ⟨hl, h⟩ := h
    have f1 := AutoSeq1.idx_int
    have c1 : (items.isEmpty || (1 : Int) == 1) = true := by rw [show ((1 : Int) == 1) = true from rfl, Bool.or_true]
    wp_walk using wpAny_loadPart' hl
    exact ⟨_, rfl, h⟩
theorem op_tupOne : OpR X (binaryOp .Mult) (fun x y H Qk => ∃ l xs, x = .ref l ∧ y = .int 1 ∧ SqT X.K H l xs ∧ Qk (.ref l) H) := by
  intro pins s σ H x y v u Qk I rx ry h
  obtain ⟨l, xs, rfl, rfl, hT, q⟩ := h
  cases rx
  obtain ⟨t, rfl⟩ := ry
  obtain ⟨its, r, ⟨⟨cls, dd, data, sl⟩, ho, hc, n, hd⟩, hs⟩ := I.tuple hT
  simp only at hc hd
  subst hc hd
  refine wpAny_binaryOp_repeat_ref (T := "tuple") (U := "int") (by decide) ⟨_, ho, rfl⟩ (fun s' => typeIs_int s' 1 t) noFill_tuple_mul F.fills_int_mul F.slot_int_rmul repeat_tuple F.slot_int_index.lookup
    (call_meets F.slot_int_rmul (typeIs_int s 1 t) F.entry_int_rmul (F.args_int_rmul_2 _ _) (int_rmul_tuple 1 t l its.toArray n dd sl)
      ⟨ho, rfl, ⟨_, ho, rfl⟩, call_meets F.slot_tuple_mul ⟨_, ho, rfl⟩ F.entry_tuple_mul (F.args_tuple_mul_2 _ _) (tuple_mulOne l its.toArray n dd sl t) ⟨ho, ?_⟩⟩)
  exact ⟨.ref l, H, I, rfl, q⟩
theorem reps_flat {K : PySem.W.Frag} {H : Hp} {M : Addr → Prop} {γ : Gm} {vs : List V} {xs : List PV} (r : Reps K H M γ vs xs) : ∀ n : Nat, Reps K H M γ (List.replicate n vs).flatten (List.replicate n xs).flatten
  | 0 => .nil
  | n + 1 => by
    rw [List.replicate_succ, List.replicate_succ, List.flatten_cons, List.flatten_cons]
    exact Reps.app r (reps_flat r n)
theorem mulOk_of {a b : Int} (h : mulOk a b = true) : CMulW a b := by
  unfold mulOk at h
  have h' : a.natAbs.log2 + b.natAbs.log2 < 1000000 := of_decide_eq_true h
  exact h'
theorem opMul : OpR X (binaryOp .Mult) (rO2 X.K (binO .Mult)) := by
  intro pins s σ H x y v u Qk I rx ry h
  obtain ⟨M, γ, dx, dy, er, hx, hy, hM, hf, hq⟩ := h
  unfold binO at hf
  split at hf
  · simp only [binI] at hf
    split at hf
    · rename_i hz
      simp only [Option.map_some, Option.some.injEq] at hf
      subst hf
      cases hx; cases hy
      exact op_mulW pins s σ H _ _ v u Qk I rx ry ⟨_, _, rfl, rfl, mulOk_of hz, hq _ _ Ext.refl (Rep.int _)⟩
    · cases hf
  · dsimp only at hf
    unfold mulO at hf
    split at hf
    · split at hf
      · rename_i hz
        cases hf
        obtain ⟨h0, h1, h2, h3⟩ := hz
        cases hy
        cases hx with
        | tup ht nt rt =>
          rename_i a k _ _ vs
          by_cases hk : k = 1
          · subst hk
            refine op_tupOne pins s σ H _ _ v u Qk I rx ry ⟨_, _, rfl, rfl, SqT.of ht, ?_⟩
            refine hq _ _ Ext.refl ?_
            show Rep _ _ _ _ _ (.tup _)
            have e : (List.replicate (1 : Int).toNat a).flatten = a := by simp
            rw [e]
            exact Rep.tup ht nt rt
          · have hne : vs ≠ [] := fun e => by subst e; cases rt; exact h0 rfl
            refine op_repT pins s σ H _ _ v u Qk I rx ry ⟨_, _, _, rfl, rfl, SqT.of ht, hne, by omega, h2, by rw [rt.len]; exact h3, fun p hp => ?_⟩
            exact hq _ _ (upd_ext hp) (Rep.tup upd_same (fun m => hM p m hp) (reps_flat (reps_new hp rt) _))
      · cases hf
    · split at hf
      · split at hf
        · rename_i e1 hz
          cases hf
          obtain ⟨h1, h2, h3⟩ := hz
          cases hy
          obtain ⟨a, vs, rfl, hl, rl⟩ := hx.lst e1
          have h4 : vs.length ≤ 1000 := by rw [rl.len]; exact h3
          have hb : ∀ k : Int, k ≤ 1000 → vs.length * k.toNat ≤ sizeLine := fun k hk => by
            rw [sizeL]
            have q : vs.length * k.toNat ≤ 1000 * 1000 := Nat.mul_le_mul h4 (by omega)
            unfold line
            omega
          refine op_rep pins s σ H _ _ v u Qk I rx ry ⟨_, _, _, rfl, rfl, hl, by omega, by omega, hb _ h2, fun p hp => ?_⟩
          exact hq _ _ (upd_ext hp) ⟨p, rfl, hp, fun M' hM' => ⟨_, upd_same, reps_flat (reps_own hp hM' rl) _⟩⟩
        · cases hf
      · cases hf
    · cases hf
/-- the operators of numbers alone -/
theorem opNum {op : Operator} {r : R2} (ho : OpR X (binaryOp op) r) (h1 : op ≠ .Add) (h2 : op ≠ .Mult)
    (h : ∀ (a b i : Int) (H : Hp) (Qk : VK), binI op a b = some i → Qk (.int i) H → r (.int a) (.int b) H Qk) : OpR X (binaryOp op) (rO2 X.K (binO op)) := by
  intro pins s σ H x y v u Qk I rx ry hh
  obtain ⟨M, γ, dx, dy, er, hx, hy, hM, hf, hq⟩ := hh
  unfold binO at hf
  split at hf
  · simp only [Option.map_eq_some_iff] at hf
    obtain ⟨i, e, rfl⟩ := hf
    cases hx; cases hy
    exact ho pins s σ H _ _ v u Qk I rx ry (h _ _ i H Qk e (hq _ _ Ext.refl (Rep.int _)))
  · split at hf
    · exact absurd rfl h1
    · exact absurd rfl h2
    · cases hf
def CPowW (i j : Int) : Prop := 0 ≤ j ∧ (Builtin.Int.intBits i : Int) * j ≤ 2 ^ 27
theorem op_powW : OpR X (binaryOp .Pow) (rI CPowW fun i j => .int (i ^ j.toNat)) := opI fun _ _ _ _ _ _ _ hc q => PyProof.Rows.pow_int hc.1 hc.2 q
theorem powW_of {a b : Int} (h : powW a b = true) : CPowW a b := by
  unfold powW at h
  simp only [Bool.and_eq_true, decide_eq_true_eq] at h
  exact ⟨h.1, by have := h.2; omega⟩
theorem powOk_of {a b : Int} (h : powOk a b = true) : CPow a b := by
  unfold powOk at h
  simp only [Bool.and_eq_true, decide_eq_true_eq] at h
  exact ⟨h.1.1, h.1.2, h.2⟩
theorem opBin : ∀ {op : Operator}, (op = .Add ∨ op = .Sub ∨ op = .Mult ∨ op = .FloorDiv ∨ op = .Mod ∨ op = .Pow ∨ op = .LShift ∨ op = .RShift ∨ op = .BitAnd) → OpR X (binaryOp op) (rO2 X.K (binO op)) := by
  intro op h
  rcases h with rfl | rfl | rfl | rfl | rfl | rfl | rfl | rfl | rfl
  · exact opAdd
  · exact opNum op_sub (by decide) (by decide) fun a b i H Qk e q => ⟨a, b, rfl, rfl, by cases e; exact q⟩
  · exact opMul
  · refine opNum op_fdivW (by decide) (by decide) fun a b i H Qk e q => ?_
    simp only [binI] at e
    split at e
    · rename_i hz
      cases e
      exact ⟨a, b, rfl, rfl, hz, q⟩
    · cases e
  · refine opNum op_mod (by decide) (by decide) fun a b i H Qk e q => ?_
    simp only [binI] at e
    split at e
    · rename_i hz
      cases e
      exact ⟨a, b, rfl, rfl, hz, q⟩
    · cases e
  · refine opNum op_powW (by decide) (by decide) fun a b i H Qk e q => ?_
    simp only [binI] at e
    split at e
    · rename_i hz
      cases e
      exact ⟨a, b, rfl, rfl, powW_of hz, q⟩
    · cases e
  · refine opNum op_shl (by decide) (by decide) fun a b i H Qk e q => ?_
    simp only [binI] at e
    split at e
    · rename_i hz
      cases e
      exact ⟨a, b, rfl, rfl, powOk_of hz, q⟩
    · cases e
  · refine opNum op_shr (by decide) (by decide) fun a b i H Qk e q => ?_
    simp only [binI] at e
    split at e
    · rename_i hz
      cases e
      exact ⟨a, b, rfl, rfl, hz, q⟩
    · cases e
  · exact opNum op_and (by decide) (by decide) fun a b i H Qk e q => ⟨a, b, rfl, rfl, by cases e; exact q⟩
end
end Q
end
section
set_option maxHeartbeats 1000000
namespace Q
open PySem PySem.Spec PyProof.Rows
open L2 hiding cutV
/-! ### keys -/
def toKey : PV → Key
  | .int i => .inl i
  | .str x => .inr x
  | _ => .inl 0
theorem keyR_to : ∀ {p : PV}, flatKey p = true → KeyR (toKey p) p
  | .int _, _ => rfl
  | .str _, _ => rfl
theorem keyR_eq : ∀ {k : Key} {p : PV}, KeyR k p → k = toKey p ∧ flatKey p = true
  | .inl _, .int _, h => ⟨by rw [show _ = _ from h]; rfl, rfl⟩
  | .inr _, .str _, h => ⟨by rw [show _ = _ from h]; rfl, rfl⟩
theorem keyRs_eq : ∀ {k : List Key} {p : List PV}, KeyRs k p → k = p.map toKey ∧ p.all flatKey = true
  | _, _, .nil => ⟨rfl, rfl⟩
  | _, _, .cons r t => by
    obtain ⟨e1, f1⟩ := keyR_eq r
    obtain ⟨e2, f2⟩ := keyRs_eq t
    exact ⟨by rw [e1, e2]; rfl, by simp [f1, f2]⟩
theorem keyRs_to : ∀ {p : List PV}, p.all flatKey = true → KeyRs (p.map toKey) p
  | [], _ => .nil
  | x :: r, h => by
    simp only [List.all_cons, Bool.and_eq_true] at h
    exact .cons (keyR_to h.1) (keyRs_to h.2)
theorem keyEq_flat : ∀ {p q : PV}, flatKey p = true → flatKey q = true → keyEq p q = decide (toKey p = toKey q)
  | .int a, .int b, _, _ => by
    show (a == b) = decide ((Sum.inl a : Key) = Sum.inl b)
    rw [key_ll]
  | .str a, .str b, _, _ => by
    show (a == b) = decide ((Sum.inr a : Key) = Sum.inr b)
    rw [key_rr, Bool.beq_eq_decide_eq]
  | .int a, .str b, _, _ => by show false = decide ((Sum.inl a : Key) = Sum.inr b); rw [key_lr]
  | .str a, .int b, _, _ => by show false = decide ((Sum.inr a : Key) = Sum.inl b); rw [key_rl]
theorem keysEq_flat : ∀ {p q : List PV}, p.all flatKey = true → q.all flatKey = true → keyEq.keysEq p q = decide (p.map toKey = q.map toKey)
  | [], [], _, _ => rfl
  | [], _ :: _, _, _ => by simp [keyEq.keysEq]
  | x :: _, [], _, _ => by cases x <;> simp [keyEq.keysEq]
  | x :: xs, y :: ys, h, g => by
    simp only [List.all_cons, Bool.and_eq_true] at h g
    have e1 := keyEq_flat h.1 g.1
    have e2 := keysEq_flat h.2 g.2
    have e3 : keyEq.keysEq (x :: xs) (y :: ys) = (keyEq x y && keyEq.keysEq xs ys) := by
      cases x <;> cases y <;> first | rfl | (simp [keyEq.keysEq, keyEq]; done) | (exact absurd h.1 (by simp [flatKey])) | (exact absurd g.1 (by simp [flatKey]))
    rw [e3, e1, e2]
    simp only [List.map_cons, List.cons.injEq, Bool.decide_and]
section
variable {K : PySem.W.Frag} {H : Hp} {M : Addr → Prop} {γ : Gm}
theorem rep_key {v : V} {p : PV} (r : Rep K H M γ v p) (f : flatKey p = true) : v = kV (toKey p) := by
  cases r <;> first | rfl | cases f
theorem reps_keys : ∀ {vs : List V} {xs : List PV}, Reps K H M γ vs xs → xs.all flatKey = true → vs = (xs.map toKey).map kV
  | _, _, .nil, _ => rfl
  | _, _, .cons r t, h => by
    simp only [List.all_cons, Bool.and_eq_true] at h
    rw [rep_key r h.1, reps_keys t h.2]; rfl
/-- one store of pairs and the other: what a key has -/
theorem get_flat {R : V → PV → Prop} : ∀ {ks : List (Key × V)} {kvs : List (PV × PV)}, Paired (fun k p => KeyR k.1 p.1 ∧ R k.2 p.2) ks kvs → ∀ {p : PV}, flatKey p = true →
    (match valV ks (toKey p), dGet kvs p with | some v, some q => R v q | none, none => True | _, _ => False)
  | _, _, .nil, _, _ => by simp [dGet, valV_nil]
  | (k, v) :: ks, (a, q) :: kvs, .cons r t, p, f => by
    obtain ⟨e1, f1⟩ := keyR_eq r.1
    have e : keyEq a p = decide (toKey a = toKey p) := keyEq_flat f1 f
    have ih := get_flat t f
    have e1 : k = toKey a := e1
    subst e1
    by_cases h : toKey a = toKey p
    · rw [valV_pos h]
      simp only [dGet, e, decide_eq_true h, if_true]
      exact r.2
    · rw [valV_neg h]
      simp only [dGet, e, decide_eq_false h, Bool.false_eq_true, if_false]
      exact ih
theorem get_tup {R : V → PV → Prop} : ∀ {ks : List (List Key × V)} {kvs : List (PV × PV)}, Paired (fun k p => KTup k.1 p.1 ∧ R k.2 p.2) ks kvs → ∀ {xs : List PV}, xs.all flatKey = true →
    (match valV ks (xs.map toKey), dGet kvs (.tup xs) with | some v, some q => R v q | none, none => True | _, _ => False)
  | _, _, .nil, _, _ => by simp [dGet, valV_nil]
  | (k, v) :: ks, (a, q) :: kvs, .cons r t, xs, f => by
    obtain ⟨ys, e0, r1⟩ := r.1
    have e0 : a = .tup ys := e0
    subst e0
    obtain ⟨e1, f1⟩ := keyRs_eq r1
    have e : keyEq (.tup ys) (.tup xs) = decide (ys.map toKey = xs.map toKey) := keysEq_flat f1 f
    have ih := get_tup t f
    have e1 : k = ys.map toKey := e1
    subst e1
    by_cases h : ys.map toKey = xs.map toKey
    · rw [valV_pos h]
      simp only [dGet, e, decide_eq_true h, if_true]
      exact r.2
    · rw [valV_neg h]
      simp only [dGet, e, decide_eq_false h, Bool.false_eq_true, if_false]
      exact ih
theorem put_flat {R : V → PV → Prop} {ks : List (Key × V)} {kvs : List (PV × PV)} (r : Paired (fun k p => KeyR k.1 p.1 ∧ R k.2 p.2) ks kvs) {p q : PV} {v : V} (f : flatKey p = true) (rv : R v q) :
    Paired (fun k p => KeyR k.1 p.1 ∧ R k.2 p.2) (putK ks (toKey p) v) (dPut kvs p q) := by
  have snoc : ∀ {ks : List (Key × V)} {kvs : List (PV × PV)}, Paired (fun k p => KeyR k.1 p.1 ∧ R k.2 p.2) ks kvs → Paired (fun k p => KeyR k.1 p.1 ∧ R k.2 p.2) (ks ++ [(toKey p, v)]) (kvs ++ [(p, q)]) := by
    intro ks kvs r
    induction r with
    | nil => exact .cons ⟨keyR_to f, rv⟩ .nil
    | cons a b ih => exact .cons a ih
  have rep : ∀ {ks : List (Key × V)} {kvs : List (PV × PV)}, Paired (fun k p => KeyR k.1 p.1 ∧ R k.2 p.2) ks kvs → Paired (fun k p => KeyR k.1 p.1 ∧ R k.2 p.2) (ks.map fun kv => if kv.1 = toKey p then (kv.1, v) else kv) (kvs.map fun z => if keyEq z.1 p then (z.1, q) else z) := by
    intro ks kvs r
    induction r with
    | nil => exact .nil
    | @cons k z ks kvs a b ih =>
      refine .cons ?_ ih
      obtain ⟨e1, f1⟩ := keyR_eq a.1
      dsimp only
      rw [keyEq_flat f1 f, ← e1]
      by_cases h : k.1 = toKey p
      · rw [if_pos h, if_pos (decide_eq_true h)]
        exact ⟨a.1, rv⟩
      · rw [if_neg h, if_neg (by simp [h])]
        exact a
  have g := get_flat r f
  unfold putK dPut dHas
  rw [valV_any]
  cases e1 : valV ks (toKey p) with
  | none =>
    rw [e1] at g
    cases e2 : dGet kvs p with
    | none => simpa using snoc r
    | some _ => rw [e2] at g; exact g.elim
  | some x =>
    rw [e1] at g
    cases e2 : dGet kvs p with
    | none => rw [e2] at g; exact g.elim
    | some _ => simpa using rep r
theorem put_tup {R : V → PV → Prop} {ks : List (List Key × V)} {kvs : List (PV × PV)} (r : Paired (fun k p => KTup k.1 p.1 ∧ R k.2 p.2) ks kvs) {xs : List PV} {q : PV} {v : V} (f : xs.all flatKey = true) (rv : R v q) :
    Paired (fun k p => KTup k.1 p.1 ∧ R k.2 p.2) (putK ks (xs.map toKey) v) (dPut kvs (.tup xs) q) := by
  have snoc : ∀ {ks : List (List Key × V)} {kvs : List (PV × PV)}, Paired (fun k p => KTup k.1 p.1 ∧ R k.2 p.2) ks kvs → Paired (fun k p => KTup k.1 p.1 ∧ R k.2 p.2) (ks ++ [(xs.map toKey, v)]) (kvs ++ [(.tup xs, q)]) := by
    intro ks kvs r
    induction r with
    | nil => exact .cons ⟨⟨xs, rfl, keyRs_to f⟩, rv⟩ .nil
    | cons a b ih => exact .cons a ih
  have rep : ∀ {ks : List (List Key × V)} {kvs : List (PV × PV)}, Paired (fun k p => KTup k.1 p.1 ∧ R k.2 p.2) ks kvs → Paired (fun k p => KTup k.1 p.1 ∧ R k.2 p.2) (ks.map fun kv => if kv.1 = xs.map toKey then (kv.1, v) else kv) (kvs.map fun z => if keyEq z.1 (.tup xs) then (z.1, q) else z) := by
    intro ks kvs r
    induction r with
    | nil => exact .nil
    | @cons k z ks kvs a b ih =>
      refine .cons ?_ ih
      obtain ⟨ys, e0, r1⟩ := a.1
      obtain ⟨e1, f1⟩ := keyRs_eq r1
      have e2 : keyEq z.1 (.tup xs) = decide (k.1 = xs.map toKey) := by rw [e0, e1]; exact keysEq_flat f1 f
      dsimp only
      rw [e2]
      by_cases h : k.1 = xs.map toKey
      · rw [if_pos h, if_pos (decide_eq_true h)]
        exact ⟨a.1, rv⟩
      · rw [if_neg h, if_neg (by simp [h])]
        exact a
  have g := get_tup r f
  unfold putK dPut dHas
  rw [valV_any]
  cases e1 : valV ks (xs.map toKey) with
  | none =>
    rw [e1] at g
    cases e2 : dGet kvs (.tup xs) with
    | none => simpa using snoc r
    | some _ => rw [e2] at g; exact g.elim
  | some x =>
    rw [e1] at g
    cases e2 : dGet kvs (.tup xs) with
    | none => rw [e2] at g; exact g.elim
    | some _ => simpa using rep r
/-- what a dict at a has for the key y -/
theorem own_get {a : Addr} {t : Bool} {kvs : List (PV × PV)} {y : V} {p : PV} (o : OwnR K H M γ a (.dct t kvs)) (ry : Rep K H M γ y p) (f : keyOk t p = true) :
    ∃ r, DGet H a y r ∧ (match r, dGet kvs p with | some v, some q => Rep K H M γ v q | none, none => True | _, _ => False) := by
  cases t with
  | false =>
    obtain ⟨ks, h, r⟩ := o
    have f : flatKey p = true := f
    refine ⟨valV ks (toKey p), ?_, get_flat r f⟩
    rw [rep_key ry f]
    exact DGet.k h
  | true =>
    obtain ⟨ks, h, r⟩ := o
    cases p with
    | tup xs =>
      have f : xs.all flatKey = true := f
      refine ⟨valV ks (xs.map toKey), ?_, get_tup r f⟩
      cases ry with
      | tup h1 n1 r1 =>
        refine DGet.t h ?_
        rw [h1, reps_keys r1 f]
    | _ => exact absurd f (by simp [keyOk])
end

section
variable {X : Cx}
theorem units64 {n : Nat} {A : Around} (r : Room n A) : A.units + 65 < cLine := by have := r.un; omega
theorem dv_none {K : PySem.W.Frag} {H : Hp} {M : Addr → Prop} {γ : Gm} {x : V} : ∀ {d : DV}, DvR K H M γ x d → d ≠ .bad → decide (x = .non) = isNone d
  | .v p, h, _ => by cases h <;> rfl
  | .d l, h, _ => by obtain ⟨a, rfl, _⟩ := h; rfl
  | .bad, _, n => absurd rfl n
theorem bER_some {o : Option Bool} {er : ER} (h : bER o = some er) : ∃ b, o = some b ∧ er = .v (.bl b) := by
  unfold bER at h
  obtain ⟨b, e, z⟩ := Option.map_eq_some_iff.mp h
  exact ⟨b, e, z.symm⟩
theorem opIs : OpR X (compareOp .Is) (rO2 X.K fun x y => bER (cmpO .Is x y)) := by
  intro pins s σ H x y v u Qk I rx ry h
  obtain ⟨M, γ, dx, dy, er, hx, hy, hM, hf, hq⟩ := h
  obtain ⟨b, hb, rfl⟩ := bER_some hf
  have hb : isO dx dy = some b := hb
  unfold isO at hb
  split at hb
  · split at hb
    · cases hb
    · rename_i hn
      cases hb
      cases hy
      refine op_isN pins s σ H _ _ v u Qk I rx ry ⟨rfl, ?_⟩
      rw [dv_none hx fun e => hn e]
      exact hq _ _ Ext.refl (Rep.bl _)
  · split at hb
    · cases hb
      cases hx; cases hy
      exact op_isBl pins s σ H _ _ v u Qk I rx ry ⟨_, _, rfl, rfl, hq _ _ Ext.refl (Rep.bl _)⟩
    · cases hb
  · cases hb
theorem opIsNot : OpR X (compareOp .IsNot) (rO2 X.K fun x y => bER (cmpO .IsNot x y)) := by
  intro pins s σ H x y v u Qk I rx ry h
  obtain ⟨M, γ, dx, dy, er, hx, hy, hM, hf, hq⟩ := h
  obtain ⟨b, hb, rfl⟩ := bER_some hf
  have hb : (isO dx dy).map (!·) = some b := hb
  obtain ⟨c, hc, rfl⟩ := Option.map_eq_some_iff.mp hb
  unfold isO at hc
  split at hc
  · split at hc
    · cases hc
    · rename_i hn
      cases hc
      cases hy
      refine op_notN pins s σ H _ _ v u Qk I rx ry ⟨rfl, ?_⟩
      rw [dv_none hx fun e => hn e]
      exact hq _ _ Ext.refl (Rep.bl _)
  · split at hc
    · cases hc
      cases hx; cases hy
      exact op_notBl pins s σ H _ _ v u Qk I rx ry ⟨_, _, rfl, rfl, hq _ _ Ext.refl (Rep.bl _)⟩
    · cases hc
  · cases hc
theorem eqO_some {dx dy : DV} {c : Bool} (h : eqO dx dy = some c) : (∃ a b, dx = .v (.str a) ∧ dy = .v (.str b) ∧ c = (a == b)) ∨ ∃ p q, dx.pv = some p ∧ dy.pv = some q ∧ p.fit = true ∧ q.fit = true ∧ c = p.eqv q := by
  unfold eqO at h
  split at h
  · cases h
    exact .inl ⟨_, _, rfl, rfl, rfl⟩
  · split at h
    · rename_i p q e1 e2
      split at h
      · rename_i hf
        simp only [Bool.and_eq_true] at hf
        cases h
        exact .inr ⟨p, q, e1, e2, hf.1, hf.2, rfl⟩
      · cases h
    · cases h
theorem opEq {n : Nat} (hr : Room n X.A) : OpR X (compareOp .Eq) (rO2 X.K fun x y => bER (cmpO .Eq x y)) := by
  intro pins s σ H x y v u Qk I rx ry h
  obtain ⟨M, γ, dx, dy, er, hx, hy, hM, hf, hq⟩ := h
  obtain ⟨b, hb, rfl⟩ := bER_some hf
  rcases eqO_some (show eqO dx dy = some b from hb) with ⟨a, b', rfl, rfl, rfl⟩ | ⟨p, q, e1, e2, f1, f2, rfl⟩
  · cases hx; cases hy
    exact op_eq pins s σ H _ _ v u Qk I rx ry ⟨rfl, by rw [dec_str]; exact hq _ _ Ext.refl (Rep.bl _)⟩
  exact op_eqD hr.units pins s σ H _ _ v u Qk I rx ry ⟨_, _, hx.dp e1 (fit_lay f1), hy.dp e2 (fit_lay f2), f1, f2, hq _ _ Ext.refl (Rep.bl _)⟩
theorem opNe {n : Nat} (hr : Room n X.A) : OpR X (compareOp .NotEq) (rO2 X.K fun x y => bER (cmpO .NotEq x y)) := by
  intro pins s σ H x y v u Qk I rx ry h
  obtain ⟨M, γ, dx, dy, er, hx, hy, hM, hf, hq⟩ := h
  obtain ⟨b, hb, rfl⟩ := bER_some hf
  have hb : (eqO dx dy).map (!·) = some b := hb
  obtain ⟨c, hc, rfl⟩ := Option.map_eq_some_iff.mp hb
  rcases eqO_some hc with ⟨a, b', rfl, rfl, rfl⟩ | ⟨p, q, e1, e2, f1, f2, rfl⟩
  · cases hx; cases hy
    exact op_ne pins s σ H _ _ v u Qk I rx ry ⟨rfl, by rw [dec_str]; exact hq _ _ Ext.refl (Rep.bl _)⟩
  exact op_neD hr.units pins s σ H _ _ v u Qk I rx ry ⟨_, _, hx.dp e1 (fit_lay f1), hy.dp e2 (fit_lay f2), f1, f2, hq _ _ Ext.refl (Rep.bl _)⟩
/-- x in y, both answers at once -/
theorem inAny {n : Nat} (hr : Room n X.A) {op : CmpOp} {g : Bool → Bool} (hop : (op = .In ∧ g = id) ∨ (op = .NotIn ∧ g = (!·))) {pins : List (Addr × Obj)} {s : Shared} {σ : L2.St} {H : Hp} {x y : V} {v u : Value} {Qk : VK} (I : Inv X pins σ H s) (rx : RelV x v) (ry : RelV y u)
    {M : Addr → Prop} {γ : Gm} {dx dy : DV} {c : Bool} (hx : DvR X.K H M γ x dx) (hy : DvR X.K H M γ y dy) (hf : inO dx dy = some c) (hq : Qk (.bl (g c)) H) :
    wpAny (model X.prog X.w) X.A (compareOp op v u) (EP X pins σ Qk) X.xe s := by
  unfold inO at hf
  split at hf
  · cases hf
  · rename_i p ep
    split at hf
    · -- a dict
      split at hf
      · rename_i t kvs hk
        cases hf
        obtain ⟨a, rfl, o⟩ := hy
        cases ry
        have rp : Rep X.K H M γ x p := by
          unfold DV.pv at ep
          split at ep
          · cases ep; exact hx
          · cases ep
            cases t <;> exact absurd hk (by simp [keyOk, flatKey])
          · cases ep
        obtain ⟨r, g0, hm⟩ := own_get o rp hk
        have e : dHas kvs p = r.isSome := by
          unfold dHas
          cases r <;> cases q : dGet kvs p <;> rw [q] at hm <;> first | rfl | exact hm.elim
        have hu : X.A.units + 1 < cLine := by have := units64 hr; omega
        rcases hop with ⟨rfl, rfl⟩ | ⟨rfl, rfl⟩
        · exact d_in hu I g0 rx fun s' I' => ⟨.bl _, H, I', rfl, by rw [← e]; exact hq⟩
        · exact d_notIn hu I g0 rx fun s' I' => ⟨.bl _, H, I', rfl, by rw [← e]; exact hq⟩
      · cases hf
    · -- a text
      split at hf
      · rename_i z0
        cases hf
        have rp : x = .str z0 := by
          unfold DV.pv at ep
          split at ep
          · cases ep; cases hx; rfl
          · cases ep
          · cases ep
        cases hy
        rcases hop with ⟨rfl, rfl⟩ | ⟨rfl, rfl⟩
        · exact op_in_str pins s σ H _ _ v u Qk I rx ry ⟨_, _, rp, rfl, hq⟩
        · exact op_notin_str pins s σ H _ _ v u Qk I rx ry ⟨_, _, rp, rfl, hq⟩
      · cases hf
    · -- a tuple
      split at hf
      · rename_i xs hz
        simp only [Bool.and_eq_true] at hz
        cases hf
        obtain ⟨as, r1⟩ := Dp.reads I p.toD x v (hx.dp ep (fit_lay hz.1)) rx
        have hd : Dp X.K H y (PV.tup xs).toD := DvR.dp (x := .v (.tup xs)) rfl hy (fit_lay hz.2)
        simp only [PV.toD] at hd
        obtain ⟨bs, r2⟩ := Dp.reads I _ y u hd ry
        have c1 : PyData.canLayAll0 (PV.toDs xs) = true := by have := fit_lay hz.2; simpa only [PV.toD, PyData.canLay0] using this
        have e : (xs.any fun q => q.eqv p) = (PV.toDs xs).any fun z => PyData.eqv z p.toD := by rw [toDs_map, List.any_map]; rfl
        rcases hop with ⟨rfl, rfl⟩ | ⟨rfl, rfl⟩
        · exact SeqAt.in_tuple_reads r2 r1 c1 (fit_lay hz.1) (room_in_shaped hz.1 (units64 hr)) ⟨.bl _, H, I, rfl, by rw [← e]; exact hq⟩
        · exact SeqAt.notIn_tuple_reads r2 r1 c1 (fit_lay hz.1) (room_in_shaped hz.1 (units64 hr)) ⟨.bl _, H, I, rfl, by rw [← e]; exact hq⟩
      · cases hf
    · -- a list
      split at hf
      · rename_i xs exs
        split at hf
        · rename_i hz
          simp only [Bool.and_eq_true] at hz
          cases hf
          obtain ⟨as, r1⟩ := Dp.reads I p.toD x v (hx.dp ep (fit_lay hz.1)) rx
          obtain ⟨a, vs, rfl, hl, rl⟩ := hy.lst exs
          have c1 : PyData.canLayAll0 (PV.toDs xs) = true := by have := fit_lay hz.2; simpa only [PV.toD, PyData.canLay0] using this
          obtain ⟨bs, r2⟩ := Dp.reads I (.list (PV.toDs xs)) (.ref a) u (.lst (SqL.of hl) (Reps.dp rl c1)) ry
          have e : (xs.any fun q => q.eqv p) = (PV.toDs xs).any fun z => PyData.eqv z p.toD := by rw [toDs_map, List.any_map]; rfl
          rcases hop with ⟨rfl, rfl⟩ | ⟨rfl, rfl⟩
          · exact SeqAt.in_list_reads r2 r1 c1 (fit_lay hz.1) (room_in_shaped hz.1 (units64 hr)) ⟨.bl _, H, I, rfl, by rw [← e]; exact hq⟩
          · exact SeqAt.notIn_list_reads r2 r1 c1 (fit_lay hz.1) (room_in_shaped hz.1 (units64 hr)) ⟨.bl _, H, I, rfl, by rw [← e]; exact hq⟩
        · cases hf
      · cases hf
theorem opIn {n : Nat} (hr : Room n X.A) : OpR X (compareOp .In) (rO2 X.K fun x y => bER (cmpO .In x y)) := by
  intro pins s σ H x y v u Qk I rx ry h
  obtain ⟨M, γ, dx, dy, er, hx, hy, hM, hf, hq⟩ := h
  obtain ⟨b, hb, rfl⟩ := bER_some hf
  exact inAny hr (.inl ⟨rfl, rfl⟩) I rx ry hx hy (show inO dx dy = some b from hb) (hq _ _ Ext.refl (Rep.bl _))
theorem opNotIn {n : Nat} (hr : Room n X.A) : OpR X (compareOp .NotIn) (rO2 X.K fun x y => bER (cmpO .NotIn x y)) := by
  intro pins s σ H x y v u Qk I rx ry h
  obtain ⟨M, γ, dx, dy, er, hx, hy, hM, hf, hq⟩ := h
  obtain ⟨b, hb, rfl⟩ := bER_some hf
  have hb : (inO dx dy).map (!·) = some b := hb
  obtain ⟨c, hc, rfl⟩ := Option.map_eq_some_iff.mp hb
  exact inAny hr (.inr ⟨rfl, rfl⟩) I rx ry hx hy hc (hq _ _ Ext.refl (Rep.bl _))
theorem opOrd {n : Nat} (hr : Room n X.A) {op : CmpOp} (hop : op = .Lt ∨ op = .LtE ∨ op = .Gt ∨ op = .GtE) : OpR X (compareOp op) (rO2 X.K fun x y => bER (cmpO op x y)) := by
  intro pins s σ H x y v u Qk I rx ry h
  obtain ⟨M, γ, dx, dy, er, hx, hy, hM, hf, hq⟩ := h
  obtain ⟨b, hb, rfl⟩ := bER_some hf
  have key : (∃ i j, dx = .v (.int i) ∧ dy = .v (.int j) ∧ ltI op i j = some b) ∨ (op = .Lt ∧ ∃ xs ys a c, dx = .v (.tup xs) ∧ dy = .v (.tup ys) ∧ intsOf xs = some a ∧ intsOf ys = some c ∧ b = HT.lexLt a c) := by
    have hb : cmpO op dx dy = some b := hb
    rcases hop with rfl | rfl | rfl | rfl
    all_goals
      unfold cmpO at hb
      dsimp only at hb
      split at hb
      · exact .inl ⟨_, _, rfl, rfl, hb⟩
      · first
          | (cases hb; done)
          | (split at hb
             · rename_i e1 e2
               cases hb
               exact .inr ⟨rfl, _, _, _, _, rfl, rfl, e1, e2, rfl⟩
             · cases hb)
      · cases hb
  rcases key with ⟨i, j, rfl, rfl, e⟩ | ⟨rfl, xs, ys, a, c, rfl, rfl, e1, e2, rfl⟩
  · cases hx; cases hy
    have q := hq _ _ Ext.refl (Rep.bl _)
    rcases hop with rfl | rfl | rfl | rfl
    all_goals simp only [ltI, Option.some.injEq] at e; subst e
    · exact op_lt pins s σ H _ _ v u Qk I rx ry ⟨_, _, rfl, rfl, q⟩
    · exact op_le pins s σ H _ _ v u Qk I rx ry ⟨_, _, rfl, rfl, q⟩
    · exact op_gt pins s σ H _ _ v u Qk I rx ry ⟨_, _, rfl, rfl, q⟩
    · exact op_ge pins s σ H _ _ v u Qk I rx ry ⟨_, _, rfl, rfl, q⟩
  · cases hx with
    | tup h1 n1 r1 =>
      cases hy with
      | tup h2 n2 r2 =>
        have z1 := Reps.intsOf r1 e1
        have z2 := Reps.intsOf r2 e2
        subst z1; subst z2
        exact op_ltT hr.units0 pins s σ H _ _ v u Qk I rx ry ⟨_, _, _, _, rfl, rfl, SqT.of h1, SqT.of h2, hq _ _ Ext.refl (Rep.bl _)⟩
theorem opCmp {n : Nat} (hr : Room n X.A) : ∀ op : CmpOp, OpR X (compareOp op) (rO2 X.K fun x y => bER (cmpO op x y))
  | .Eq => opEq hr
  | .NotEq => opNe hr
  | .Lt => opOrd hr (.inl rfl)
  | .LtE => opOrd hr (.inr (.inl rfl))
  | .Gt => opOrd hr (.inr (.inr (.inl rfl)))
  | .GtE => opOrd hr (.inr (.inr (.inr rfl)))
  | .Is => opIs
  | .IsNot => opIsNot
  | .In => opIn hr
  | .NotIn => opNotIn hr
end
end Q
end
section
set_option maxHeartbeats 1000000
namespace Q
open PySem PySem.Spec PyProof.Rows
open L2 hiding cutV
/-! ### readings -/
def XcR (K : PySem.W.Frag) (mg : Str → Option Value) (H : Hp) (M : Addr → Prop) (γ : Gm) (x : XV) (cls : Value) (d : Option Addr) : Prop :=
  (∃ c, mg x.cls = some (.ref c) ∧ cls = .ref c) ∧ match x.arg with
    | none => d = none
    | some (f, p) => ∃ dd v, d = some dd ∧ H dd = some (.xd [(f, v)]) ∧ Rep K H M γ v p
/-- where one stands: the written part, the module's names, what is wanted of an exception -/
structure Bs where
  K : PySem.W.Frag
  mg : Str → Option Value
  W : WX
def excK (B : Bs) (σ : L2.St) (H : Hp) (γ : Gm) (st : ST) (x : XV) (st' : ST) : Prop := ∀ cls d H' γ', Tr H (Mu γ σ st) γ H' (Mu γ' σ st') γ' → Sim B.K H' γ' σ st' →
  XcR B.K B.mg H' (Mu γ' σ st') γ' x cls d → B.W cls d σ H'
def okK {α β : Type} (B : Bs) (σ : L2.St) (H : Hp) (γ : Gm) (st : ST) (rel : Hp → Gm → ST → β → α → Prop) (Qk : β → Hp → Prop) (a : α) (st' : ST) : Prop := ∀ b H' γ', Tr H (Mu γ σ st) γ H' (Mu γ' σ st') γ' → Sim B.K H' γ' σ st' →
  rel H' γ' st' b a → Qk b H'
theorem excK.trans {B : Bs} {σ : L2.St} {H H1 : Hp} {γ γ1 : Gm} {st st1 st2 : ST} {x : XV} (e : excK B σ H γ st x st2) (t : Tr H (Mu γ σ st) γ H1 (Mu γ1 σ st1) γ1) : excK B σ H1 γ1 st1 x st2 :=
  fun cls d H' γ' T S r => e cls d H' γ' (t.trans T) S r
def relE (K : PySem.W.Frag) (σ : L2.St) (H0 : Hp) : Hp → Gm → ST → V → ER → Prop := fun H' γ' st' v er => ErR K H0 H' γ' σ st' v er
def relB : Hp → Gm → ST → Bool → Bool → Prop := fun _ _ _ b a => b = a
/-- results of several expressions -/
inductive ErRs (K : PySem.W.Frag) (H0 H : Hp) (γ : Gm) (σ : L2.St) (st : ST) : List V → List ER → Prop
  | nil : ErRs K H0 H γ σ st [] []
  | cons {v : V} {vs : List V} {e : ER} {es : List ER} : ErR K H0 H γ σ st v e → ErRs K H0 H γ σ st vs es → ((∃ d, e = ER.own d) → ∀ (k : Nat) (d' : LD), es[k]? = some (ER.own d') → vs[k]? ≠ some v) → ErRs K H0 H γ σ st (v :: vs) (e :: es)
def relL (K : PySem.W.Frag) (σ : L2.St) (H0 : Hp) : Hp → Gm → ST → List V → List ER → Prop := fun H' γ' st' vs es => ErRs K H0 H' γ' σ st' vs es
def tE (B : Bs) (C : Ctx) (m : E) : TE := fun σ H Qk => ∃ γ st, Sim B.K H γ σ st ∧ (ev C m st).wp (okK B σ H γ st (relE B.K σ H) Qk) (excK B σ H γ st)
def tL (B : Bs) (C : Ctx) (m : EL) : TA := fun σ H Qk => ∃ γ st, Sim B.K H γ σ st ∧ (evL C m st).wp (okK B σ H γ st (relL B.K σ H) Qk) (excK B σ H γ st)
def tT (B : Bs) (C : Ctx) (m : T) : TT := fun σ H Qk => ∃ γ st, Sim B.K H γ σ st ∧ (tst C m st).wp (okK B σ H γ st relB Qk) (excK B σ H γ st)
theorem _root_.L2.PE.mono {X : Cx} {e : Expr} {t t' : TE} (h : PE X e t) (imp : ∀ σ H Qk, t' σ H Qk → t σ H Qk) : PE X e t' := ⟨fun pins s σ H Qk I q => h.run pins s σ H Qk I (imp σ H Qk q)⟩
theorem _root_.L2.PT.mono {X : Cx} {e : Expr} {t t' : TT} (h : PT X e t) (imp : ∀ σ H Qk, t' σ H Qk → t σ H Qk) : PT X e t' := ⟨fun pins s σ H Qk I q => h.run pins s σ H Qk I (imp σ H Qk q)⟩
theorem _root_.L2.PW.mono {X : Cx} {e : Expr} {t t' : TT} (h : PW X e t) (imp : ∀ σ H Qk, t' σ H Qk → t σ H Qk) : PW X e t' := ⟨fun w pins s σ H Qk I q => h.run w pins s σ H Qk I (imp σ H Qk q)⟩
theorem _root_.L2.PA.mono {X : Cx} {e : List Expr} {t t' : TA} (h : PA X e t) (imp : ∀ σ H Qk, t' σ H Qk → t σ H Qk) : PA X e t' := ⟨fun p pins s σ H Qk I q => h.run p pins s σ H Qk I (imp σ H Qk q)⟩
section
variable {K : PySem.W.Frag} {H0 H H' : Hp} {γ γ' : Gm} {σ : L2.St} {st st' : ST} {v : V}
/-- a new object is held -/
theorem Sim.hold (S : Sim K H γ σ st) {a : Addr} (hE : Ext H H') (ha : H a = none) (hs : ∃ o, H' a = some o) : Sim K H' (γ.add a) σ st ∧ Tr H (Mu γ σ st) γ H' (Mu (γ.add a) σ st) (γ.add a) := by
  have T : Tr H (Mu γ σ st) γ H' (Mu (γ.add a) σ st) (γ.add a) := by
    have T := Tr.ext (γ := γ) (M := Mu γ σ st) hE
    refine ⟨T.keep, fun b m => .tail _ m, T.dom, fun b m => ?_, ⟨[], by simp [Gm.add]⟩⟩
    rcases m with (m | m) | m
    · exact .inl (.inl (.inl m))
    · rcases List.mem_cons.mp m with rfl | m
      · exact .inr ha
      · exact .inl (.inl (.inr m))
    · exact .inl (.inr m)
  refine ⟨⟨S.len, fun i s e => ?_, S.inj, fun b m => ?_, fun i d b e q m => ?_, S.g0⟩, T⟩
  · obtain ⟨v, e1, r⟩ := S.sv i s e
    refine ⟨v, e1, ?_⟩
    cases s with
    | v p => exact Rep.tr T r
    | own d =>
      obtain ⟨b, e2, r⟩ := r
      exact ⟨b, e2, r.tr' T fun o q => hE b o q⟩
  · rcases m with m | m
    · obtain ⟨o, e⟩ := S.gl b (.inl m)
      exact ⟨o, hE b o e⟩
    · rcases List.mem_cons.mp m with rfl | m
      · exact hs
      · obtain ⟨o, e⟩ := S.gl b (.inr m)
        exact ⟨o, hE b o e⟩
  · rcases m with m | m
    · exact S.sep i d b e q (.inl m)
    · rcases List.mem_cons.mp m with rfl | m
      · obtain ⟨u, hu, r⟩ := S.sv i _ e
        rw [q] at hu; cases hu
        obtain ⟨c, ec, r⟩ := r
        cases ec
        obtain ⟨o, z⟩ := r.some
        rw [ha] at z; cases z
      · exact S.sep i d b e q (.inr m)
/-- a result of an operation -/
theorem fin {M0 : Addr → Prop} {γ0 : Gm} (T0 : Tr H0 M0 γ0 H (Mu γ σ st) γ) (S : Sim K H γ σ st) (hE : Ext H H') {er : ER} (r : ResR K H H' (Mu γ σ st) γ v er) :
    ∃ γ', Tr H0 M0 γ0 H' (Mu γ' σ st) γ' ∧ Sim K H' γ' σ st ∧ ErR K H0 H' γ' σ st v er := by
  cases er with
  | v p => exact ⟨γ, T0.trans (Tr.ext hE), S.ext hE, r⟩
  | own d =>
    obtain ⟨a, h1, h2, h3⟩ := r
    obtain ⟨S', T⟩ := S.hold hE h2 (h3 _ fun b m => .inl m).some
    refine ⟨γ.add a, T0.trans T, S', a, h1, T0.dom a h2, .head _, OwnR.gam (γ := γ) (γ' := γ.add a) (M := Mu (γ.add a) σ st) rfl (h3 _ fun b m => ?_)⟩
    rcases m with (m | m) | m
    · exact .inl (.inl (.inl m))
    · rcases List.mem_cons.mp m with rfl | m
      · exact .inr rfl
      · exact .inl (.inl (.inr m))
    · exact .inl (.inr m)
  | slot i => exact r.elim
theorem ErRs.tr (t : Tr H (Mu γ σ st) γ H' (Mu γ' σ st') γ') {vs : List V} {es : List ER} (r : ErRs K H0 H γ σ st vs es) : ErRs K H0 H' γ' σ st' vs es := by
  induction r with
  | nil => exact .nil
  | cons a b h ih => exact .cons (a.tr t) ih h
theorem ErRs.old {H00 : Hp} (h : ∀ a, H0 a = none → H00 a = none) {vs : List V} {es : List ER} (r : ErRs K H0 H γ σ st vs es) : ErRs K H00 H γ σ st vs es := by
  induction r with
  | nil => exact .nil
  | cons a b h' ih => exact .cons (a.old h) ih h'
theorem ErRs.own : ∀ {vs : List V} {es : List ER} {k : Nat} {d : LD}, ErRs K H0 H γ σ st vs es → es[k]? = some (.own d) → ∃ a, vs[k]? = some (.ref a) ∧ H0 a = none ∧ a ∈ γ.lock ∧ OwnR K H (Mu γ σ st) γ a d
  | _, _, _, _, .nil, e => by simp at e
  | _, _, 0, d, .cons r _ _, e => by
    simp at e
    subst e
    obtain ⟨a, h1, h2, h3, h4⟩ := r
    exact ⟨a, by rw [h1]; rfl, h2, h3, h4⟩
  | _, _, k + 1, d, .cons _ rs _, e => by
    obtain ⟨a, h1, h⟩ := ErRs.own (k := k) (d := d) rs (by simpa using e)
    exact ⟨a, by simpa using h1, h⟩
theorem ErRs.get : ∀ {vs : List V} {es : List ER} {k : Nat} {e : ER}, ErRs K H0 H γ σ st vs es → es[k]? = some e → ∃ v, vs[k]? = some v ∧ ErR K H0 H γ σ st v e
  | _, _, _, _, .nil, e => by simp at e
  | _, _, 0, d, .cons r _ _, e => by
    simp at e
    subst e
    exact ⟨_, rfl, r⟩
  | _, _, k + 1, d, .cons _ rs _, e => by
    obtain ⟨a, h1, h⟩ := ErRs.get (k := k) (e := d) rs (by simpa using e)
    exact ⟨a, by simpa using h1, h⟩
theorem ErRs.len : ∀ {vs : List V} {es : List ER}, ErRs K H0 H γ σ st vs es → vs.length = es.length
  | _, _, .nil => rfl
  | _, _, .cons _ rs _ => by rw [List.length_cons, List.length_cons, ErRs.len rs]
/-- two new lists lie apart -/
theorem ErRs.apart : ∀ {vs : List V} {es : List ER} {j k : Nat} {d d' : LD} {v : V}, ErRs K H0 H γ σ st vs es → es[j]? = some (.own d) → es[k]? = some (.own d') → vs[j]? = some v → vs[k]? = some v → j = k
  | _, _, _, _, _, _, _, .nil, e, _, _, _ => by simp at e
  | _, _, 0, 0, _, _, _, .cons _ _ _, _, _, _, _ => rfl
  | _, _, 0, k + 1, d, d', v, .cons r rs h, e1, e2, q1, q2 => by
    simp at e1 q1
    subst e1 q1
    exact absurd (by simpa using q2) (h ⟨d, rfl⟩ k d' (by simpa using e2))
  | _, _, j + 1, 0, d, d', v, .cons r rs h, e1, e2, q1, q2 => by
    simp at e2 q2
    subst e2 q2
    exact absurd (by simpa using q1) (h ⟨d', rfl⟩ j d (by simpa using e1))
  | _, _, j + 1, k + 1, d, d', v, .cons r rs h, e1, e2, q1, q2 => by
    rw [ErRs.apart (j := j) (k := k) rs (by simpa using e1) (by simpa using e2) (by simpa using q1) (by simpa using q2)]
theorem Sim.mu0 (S : Sim K H γ σ st) : ∀ a, Mu γ σ st a → H a ≠ none := fun a m e => by
  obtain ⟨o, h⟩ := S.muSome m
  rw [e] at h; cases h
end
/-! ### expressions -/
section
variable {X : Cx} {B : Bs} {C : Ctx} {a b d : Expr} {ma mb md : E} {pos : Pos}
/-- a binary operation of values -/
theorem s_op2 {f : DV → DV → Option ER} {r : R2} {e : Expr} {m : E} (hB : B.K = X.K) (hm : ∀ st, ev C m st = (ev C ma st).bind fun x st => (ev C mb st).bind fun y st => lift (f (x.get st) (y.get st)) st)
    (hr : ∀ x y H Qk, rO2 X.K f x y H Qk → r x y H Qk) (h : PE X e (tOp r (tE B C ma) (tE B C mb))) : PE X e (tE B C m) := by
  refine h.mono fun σ H Qk ⟨γ, st, S, h⟩ => ?_
  rw [hm] at h
  simp only [wp_bind] at h
  refine ⟨γ, st, S, wp_mono h (fun x st1 h v1 H1 γ1 T1 S1 R1 => ?_) fun _ _ e => e⟩
  refine ⟨γ1, st1, S1, wp_mono h (fun y st2 h v2 H2 γ2 T2 S2 R2 => hr _ _ _ _ ?_) fun _ _ e => e.trans T1⟩
  cases hb : f (x.get st2) (y.get st2) with
  | none => rw [hb] at h; exact h.elim
  | some er =>
    rw [hb] at h
    have R1' : ErR B.K H H2 γ2 σ st2 v1 x := ErR.tr T2 R1
    have R2' : ErR B.K H1 H2 γ2 σ st2 v2 y := R2
    refine ⟨Mu γ2 σ st2, γ2, _, _, er, hB ▸ R1'.dv S2, hB ▸ R2'.dv S2, S2.mu0, hb, fun v H3 E3 R3 => ?_⟩
    rw [← hB] at R3
    obtain ⟨γ3, T3, S3, R⟩ := fin (T1.trans T2) S2 E3 R3
    exact h v H3 γ3 T3 S3 R
theorem s_bin {op : Operator} (hB : B.K = X.K) (ho : op = .Add ∨ op = .Sub ∨ op = .Mult ∨ op = .FloorDiv ∨ op = .Mod ∨ op = .Pow ∨ op = .LShift ∨ op = .RShift ∨ op = .BitAnd) (ha : PE X a (tE B C ma)) (hb : PE X b (tE B C mb)) :
    PE X (.BinOp a op b pos) (tE B C (.bin op ma mb)) :=
  s_op2 (f := binO op) hB (fun st => by rw [ev]) (fun _ _ _ _ h => h) (pe_op (opBin ho) ha hb)
theorem s_cmp {n : Nat} {op : CmpOp} (hB : B.K = X.K) (hr : Room n X.A) (ha : PE X a (tE B C ma)) (hb : PE X b (tE B C mb)) (hm : behindInMarks op b = false) : PE X (.Compare a [op] [b] pos) (tE B C (.cmp op ma mb)) := by
  refine s_op2 (f := fun x y => bER (cmpO op x y)) hB (fun st => ?_) (fun _ _ _ _ h => h) (pe_cmpR (opCmp hr op) ha hb hm)
  rw [ev]
  refine congrArg _ (funext fun x => funext fun st => congrArg _ (funext fun y => funext fun st => ?_))
  cases cmpO op (x.get st) (y.get st) <;> rfl
theorem s_c {p : PV} {v : V} {e : Expr} (h : PE X e (tC v)) (r : ∀ H M γ, Rep B.K H M γ v p) : PE X e (tE B C (.c p)) := by
  refine h.mono fun σ H Qk ⟨γ, st, S, h⟩ => ?_
  rw [ev] at h
  exact h v H γ Tr.refl S (r _ _ _)
theorem s_gc {x : Str} {p : PV} {v : V} {e : Expr} (h : PE X e (tC v)) (r : ∀ H M γ, Rep B.K H M γ v p) : PE X e (tE B C (.gc x p)) := by
  refine h.mono fun σ H Qk ⟨γ, st, S, h⟩ => ?_
  rw [ev] at h
  exact h v H γ Tr.refl S (r _ _ _)
theorem s_var {i : Nat} {e : Expr} (h : PE X e (tVar i)) : PE X e (tE B C (.var i)) := by
  refine h.mono fun σ H Qk ⟨γ, st, S, h⟩ => ?_
  rw [ev] at h
  cases q : envAt st i with
  | none => rw [q] at h; exact h.elim
  | some s =>
    rw [q] at h
    obtain ⟨v, e, r⟩ := S.sv i s q
    refine ⟨v, e, ?_⟩
    cases s with
    | v p => exact h v H γ Tr.refl S r
    | own d => exact h v H γ Tr.refl S e
theorem s_neg (hB : B.K = X.K) (ha : PE X a (tE B C ma)) : PE X (.UnaryOp .USub a pos) (tE B C (.neg ma)) := by
  refine (pe_un un_neg ha).mono fun σ H Qk ⟨γ, st, S, h⟩ => ?_
  rw [ev, wp_bind] at h
  refine ⟨γ, st, S, wp_mono h (fun x st1 h v1 H1 γ1 T1 S1 R1 => ?_) fun _ _ e => e⟩
  have R : ErR B.K H H1 γ1 σ st1 v1 x := R1
  have D := R.dv S1
  split at h
  · rename_i i q
    rw [q] at D
    cases D
    exact ⟨i, rfl, h _ H1 γ1 T1 S1 (Rep.int _)⟩
  · exact h.elim
end
end Q
end
section
set_option maxHeartbeats 1000000
namespace Q
open PySem PySem.Spec PyProof.Rows
open L2 hiding cutV
section
variable {X : Cx} {B : Bs} {C : Ctx} {a b d : Expr} {ma mb md : E} {pos : Pos} {rest : List Expr}
theorem bER_of {o : Option Bool} {k : Bool} (h : o = some k) : bER o = some (.v (.bl k)) := by
  rw [h]; rfl
theorem dv_truth {H : Hp} {M : Addr → Prop} {γ : Gm} {v : V} {dv : DV} {k : Bool} (r : DvR X.K H M γ v dv) (h : truthy dv = some k) : TruV X.K v H k := by
  unfold truthy at h
  split at h
  · cases h; cases r; rfl
  · cases h; cases r; rfl
  · cases h; cases r; rfl
  · split at h
    · rename_i hz
      cases h; cases r
      exact ⟨by rw [sizeL]; exact hz, rfl⟩
    · cases h
  · cases h
    cases r with
    | tup h n r =>
      refine .inr (.inl ⟨_, SqT.of h, ?_⟩)
      cases r <;> rfl
  · cases h
    cases r with
    | lst h n r =>
      refine .inl ⟨_, SqL.of h, ?_⟩
      cases r <;> rfl
  · cases h
    obtain ⟨a, rfl, vs, h, r⟩ := r
    refine .inl ⟨_, SqL.of h, ?_⟩
    cases r <;> rfl
  · cases h
theorem s_not (hB : B.K = X.K) (ha : PE X a (tE B C ma)) : PE X (.UnaryOp .Not a pos) (tE B C (.not ma)) := by
  refine (pe_notT ha).mono fun σ H Qk ⟨γ, st, S, h⟩ => ?_
  rw [ev, wp_bind] at h
  refine ⟨γ, st, S, wp_mono h (fun x st1 h v1 H1 γ1 T1 S1 R1 => ?_) fun _ _ e => e⟩
  have D := ErR.dv S1 R1
  cases q : truthy (x.get st1) with
  | none => rw [q] at h; exact h.elim
  | some k =>
    rw [q] at h
    exact ⟨k, dv_truth (hB ▸ D) q, h _ H1 γ1 T1 S1 (Rep.bl _)⟩
theorem asBool_some {x : ER} {st : ST} {k : Bool} (h : asBool x st = some k) : x.get st = .v (.bl k) := by
  unfold asBool at h
  split at h
  · cases h; assumption
  · cases h
theorem s_and (ha : PE X a (tE B C ma)) (hb : PE X (.BoolOp .And (b :: rest) pos) (tE B C mb)) : PE X (.BoolOp .And (a :: b :: rest) pos) (tE B C (.and ma mb)) := by
  refine (pe_and ha hb).mono fun σ H Qk ⟨γ, st, S, h⟩ => ?_
  rw [ev, wp_bind] at h
  refine ⟨γ, st, S, wp_mono h (fun x st1 h v1 H1 γ1 T1 S1 R1 => ?_) fun _ _ e => e⟩
  have D := ErR.dv S1 R1
  cases q : asBool x st1 with
  | none => rw [q] at h; exact h.elim
  | some k =>
    rw [q] at h
    rw [asBool_some q] at D
    cases D
    refine ⟨k, rfl, ?_⟩
    cases k with
    | true =>
      refine L2.iteT ?_
      exact ⟨γ1, st1, S1, wp_mono h (fun y st2 h v2 H2 γ2 T2 S2 R2 => h v2 H2 γ2 (T1.trans T2) S2 (ErR.old T1.dom R2)) fun _ _ e => e.trans T1⟩
    | false =>
      refine L2.iteF ?_
      exact h _ H1 γ1 T1 S1 (Rep.bl _)
theorem s_or (ha : PE X a (tE B C ma)) (hb : PE X (.BoolOp .Or (b :: rest) pos) (tE B C mb)) : PE X (.BoolOp .Or (a :: b :: rest) pos) (tE B C (.or ma mb)) := by
  refine (pe_or ha hb).mono fun σ H Qk ⟨γ, st, S, h⟩ => ?_
  rw [ev, wp_bind] at h
  refine ⟨γ, st, S, wp_mono h (fun x st1 h v1 H1 γ1 T1 S1 R1 => ?_) fun _ _ e => e⟩
  have D := ErR.dv S1 R1
  cases q : asBool x st1 with
  | none => rw [q] at h; exact h.elim
  | some k =>
    rw [q] at h
    rw [asBool_some q] at D
    cases D
    refine ⟨k, rfl, ?_⟩
    cases k with
    | false =>
      refine L2.iteF ?_
      exact ⟨γ1, st1, S1, wp_mono h (fun y st2 h v2 H2 γ2 T2 S2 R2 => h v2 H2 γ2 (T1.trans T2) S2 (ErR.old T1.dom R2)) fun _ _ e => e.trans T1⟩
    | true =>
      refine L2.iteT ?_
      exact h _ H1 γ1 T1 S1 (Rep.bl _)
theorem s_chain {n : Nat} {o1 o2 : CmpOp} (hB : B.K = X.K) (hr : Room n X.A) (ha : PE X a (tE B C ma)) (hb : PE X b (tE B C mb)) (hd : PE X d (tE B C md)) (hm : lastMarks [o1, o2] [b, d] = false) :
    PE X (.Compare a [o1, o2] [b, d] pos) (tE B C (.chain o1 o2 ma mb md)) := by
  refine (pe_chain (opCmp hr o1) (opCmp hr o2) ha hb hd hm).mono fun σ H Qk ⟨γ, st, S, h⟩ => ?_
  rw [ev, wp_bind] at h
  refine ⟨γ, st, S, wp_mono h (fun x st1 h v1 H1 γ1 T1 S1 R1 => ?_) fun _ _ e => e⟩
  rw [wp_bind] at h
  refine ⟨γ1, st1, S1, wp_mono h (fun y st2 h v2 H2 γ2 T2 S2 R2 => ?_) fun _ _ e => e.trans T1⟩
  cases q : cmpO o1 (x.get st2) (y.get st2) with
  | none => rw [q] at h; exact h.elim
  | some k =>
    rw [q] at h
    have R1' : ErR B.K H H2 γ2 σ st2 v1 x := ErR.tr T2 R1
    have R2' : ErR B.K H1 H2 γ2 σ st2 v2 y := R2
    refine ⟨Mu γ2 σ st2, γ2, _, _, .v (.bl k), hB ▸ R1'.dv S2, hB ▸ R2'.dv S2, S2.mu0, bER_of q, fun z H3 E3 R3 => ?_⟩
    have R3 : Rep X.K H3 (Mu γ2 σ st2) γ2 z (.bl k) := R3
    cases R3
    refine ⟨k, rfl, ?_⟩
    cases k with
    | false =>
      refine L2.iteF ?_
      exact h _ H3 γ2 (T1.trans (T2.trans (Tr.ext E3))) (S2.ext E3) (Rep.bl _)
    | true =>
      refine L2.iteT ?_
      simp only [lift_some, bind_ok, if_true, wp_bind] at h
      refine ⟨γ2, st2, S2.ext E3, wp_mono h (fun z st3 h v4 H4 γ4 T4 S4 R4 => ?_) fun _ _ e => (e.trans T1).trans (T2.trans (Tr.ext E3))⟩
      cases q2 : cmpO o2 (y.get st3) (z.get st3) with
      | none => rw [q2] at h; exact h.elim
      | some k2 =>
        rw [q2] at h
        have R2'' : ErR B.K H1 H4 γ4 σ st3 v2 y := ErR.tr ((Tr.ext E3).trans T4) R2'
        have R4' : ErR B.K H3 H4 γ4 σ st3 v4 z := R4
        refine ⟨Mu γ4 σ st3, γ4, _, _, .v (.bl k2), hB ▸ R2''.dv S4, hB ▸ R4'.dv S4, S4.mu0, bER_of q2, fun w H5 E5 R5 => ?_⟩
        have R5 : Rep X.K H5 (Mu γ4 σ st3) γ4 w (.bl k2) := R5
        cases R5
        exact h _ H5 γ4 (T1.trans (T2.trans ((Tr.ext E3).trans (T4.trans (Tr.ext E5))))) (S4.ext E5) (Rep.bl _)
theorem s_ifx {t : Expr} {mt : T} (ht : PT X t (tT B C mt)) (ha : PE X a (tE B C ma)) (hb : PE X b (tE B C mb)) : PE X (.IfExp t a b pos) (tE B C (.ifx mt ma mb)) := by
  refine (pe_ifExp ht ha hb).mono fun σ H Qk ⟨γ, st, S, h⟩ => ?_
  rw [ev, wp_bind] at h
  refine ⟨γ, st, S, wp_mono h (fun x st1 h k H1 γ1 T1 S1 R1 => ?_) fun _ _ e => e⟩
  have R1 : k = x := R1
  subst R1
  cases k with
  | true =>
    refine L2.iteT ?_
    exact ⟨γ1, st1, S1, wp_mono h (fun y st2 h v2 H2 γ2 T2 S2 R2 => h v2 H2 γ2 (T1.trans T2) S2 (ErR.old T1.dom R2)) fun _ _ e => e.trans T1⟩
  | false =>
    refine L2.iteF ?_
    exact ⟨γ1, st1, S1, wp_mono h (fun y st2 h v2 H2 γ2 T2 S2 R2 => h v2 H2 γ2 (T1.trans T2) S2 (ErR.old T1.dom R2)) fun _ _ e => e.trans T1⟩
/-! tests -/
theorem s_te (hB : B.K = X.K) (ha : PE X a (tE B C ma)) (he : ∀ whole, isTrue a X.env whole = (do let v ← whole; standAt a.pos; holding [v] (PySem.truthy v))) : PT X a (tT B C (.e ma)) := by
  refine (pt_truth ha he).mono fun σ H Qk ⟨γ, st, S, h⟩ => ?_
  rw [tst, wp_bind] at h
  refine ⟨γ, st, S, wp_mono h (fun x st1 h v1 H1 γ1 T1 S1 R1 => ?_) fun _ _ e => e⟩
  have D := ErR.dv S1 R1
  cases q : truthy (x.get st1) with
  | none => rw [q] at h; exact h.elim
  | some k =>
    rw [q] at h
    exact ⟨k, dv_truth (hB ▸ D) q, h _ H1 γ1 T1 S1 rfl⟩
theorem s_tcmp {n : Nat} {op : CmpOp} (hB : B.K = X.K) (hr : Room n X.A) (ha : PE X a (tE B C ma)) (hb : PE X b (tE B C mb)) (hm : behindInMarks op b = false) : PT X (.Compare a [op] [b] pos) (tT B C (.e (.cmp op ma mb))) := by
  refine (pt_cmpR (opCmp hr op) ha hb hm).mono fun σ H Qk ⟨γ, st, S, h⟩ => ?_
  rw [tst, ev, wp_bind, wp_bind] at h
  refine ⟨γ, st, S, wp_mono h (fun x st1 h v1 H1 γ1 T1 S1 R1 => ?_) fun _ _ e => e⟩
  rw [wp_bind] at h
  refine ⟨γ1, st1, S1, wp_mono h (fun y st2 h v2 H2 γ2 T2 S2 R2 => ?_) fun _ _ e => e.trans T1⟩
  cases q : cmpO op (x.get st2) (y.get st2) with
  | none => rw [q] at h; exact h.elim
  | some k =>
    rw [q] at h
    have R1' : ErR B.K H H2 γ2 σ st2 v1 x := ErR.tr T2 R1
    have R2' : ErR B.K H1 H2 γ2 σ st2 v2 y := R2
    refine ⟨Mu γ2 σ st2, γ2, _, _, .v (.bl k), hB ▸ R1'.dv S2, hB ▸ R2'.dv S2, S2.mu0, bER_of q, fun z H3 E3 R3 => ?_⟩
    have R3 : Rep X.K H3 (Mu γ2 σ st2) γ2 z (.bl k) := R3
    cases R3
    exact ⟨k, rfl, h _ H3 γ2 (T1.trans (T2.trans (Tr.ext E3))) (S2.ext E3) rfl⟩
theorem s_tchain {n : Nat} {o1 o2 : CmpOp} (hB : B.K = X.K) (hr : Room n X.A) (ha : PE X a (tE B C ma)) (hb : PE X b (tE B C mb)) (hd : PE X d (tE B C md)) (hm : lastMarks [o1, o2] [b, d] = false) :
    PT X (.Compare a [o1, o2] [b, d] pos) (tT B C (.e (.chain o1 o2 ma mb md))) := by
  refine (pt_chain (opCmp hr o1) (opCmp hr o2) ha hb hd hm).mono fun σ H Qk ⟨γ, st, S, h⟩ => ?_
  rw [tst, ev, wp_bind, wp_bind] at h
  refine ⟨γ, st, S, wp_mono h (fun x st1 h v1 H1 γ1 T1 S1 R1 => ?_) fun _ _ e => e⟩
  rw [wp_bind] at h
  refine ⟨γ1, st1, S1, wp_mono h (fun y st2 h v2 H2 γ2 T2 S2 R2 => ?_) fun _ _ e => e.trans T1⟩
  cases q : cmpO o1 (x.get st2) (y.get st2) with
  | none => rw [q] at h; exact h.elim
  | some k =>
    rw [q] at h
    have R1' : ErR B.K H H2 γ2 σ st2 v1 x := ErR.tr T2 R1
    have R2' : ErR B.K H1 H2 γ2 σ st2 v2 y := R2
    refine ⟨Mu γ2 σ st2, γ2, _, _, .v (.bl k), hB ▸ R1'.dv S2, hB ▸ R2'.dv S2, S2.mu0, bER_of q, fun z H3 E3 R3 => ?_⟩
    have R3 : Rep X.K H3 (Mu γ2 σ st2) γ2 z (.bl k) := R3
    cases R3
    refine ⟨k, rfl, ?_⟩
    cases k with
    | false =>
      refine L2.iteF ?_
      exact ⟨false, rfl, h _ H3 γ2 (T1.trans (T2.trans (Tr.ext E3))) (S2.ext E3) rfl⟩
    | true =>
      refine L2.iteT ?_
      simp only [lift_some, bind_ok, if_true, wp_bind] at h
      refine ⟨γ2, st2, S2.ext E3, wp_mono h (fun z st3 h v4 H4 γ4 T4 S4 R4 => ?_) fun _ _ e => (e.trans T1).trans (T2.trans (Tr.ext E3))⟩
      cases q2 : cmpO o2 (y.get st3) (z.get st3) with
      | none => rw [q2] at h; exact h.elim
      | some k2 =>
        rw [q2] at h
        have R2'' : ErR B.K H1 H4 γ4 σ st3 v2 y := ErR.tr ((Tr.ext E3).trans T4) R2'
        have R4' : ErR B.K H3 H4 γ4 σ st3 v4 z := R4
        refine ⟨Mu γ4 σ st3, γ4, _, _, .v (.bl k2), hB ▸ R2''.dv S4, hB ▸ R4'.dv S4, S4.mu0, bER_of q2, fun w H5 E5 R5 => ?_⟩
        have R5 : Rep X.K H5 (Mu γ4 σ st3) γ4 w (.bl k2) := R5
        cases R5
        exact ⟨k2, rfl, h _ H5 γ4 (T1.trans (T2.trans ((Tr.ext E3).trans (T4.trans (Tr.ext E5))))) (S4.ext E5) rfl⟩
theorem s_tnot {m : T} (h : PT X a (tT B C m)) : PT X (.UnaryOp .Not a pos) (tT B C (.not m)) := by
  refine (pt_not h).mono fun σ H Qk ⟨γ, st, S, h⟩ => ?_
  rw [tst, wp_bind] at h
  refine ⟨γ, st, S, wp_mono h (fun x st1 h k H1 γ1 T1 S1 R1 => ?_) fun _ _ e => e⟩
  have R1 : k = x := R1
  subst R1
  exact h _ H1 γ1 T1 S1 rfl
theorem s_tand {m1 m2 : T} (ha : PT X a (tT B C m1)) (hb : PW X (.BoolOp .And (b :: rest) pos) (tT B C m2)) : PW X (.BoolOp .And (a :: b :: rest) pos) (tT B C (.and m1 m2)) := by
  refine (pw_and ha hb).mono fun σ H Qk ⟨γ, st, S, h⟩ => ?_
  rw [tst, wp_bind] at h
  refine ⟨γ, st, S, wp_mono h (fun x st1 h k H1 γ1 T1 S1 R1 => ?_) fun _ _ e => e⟩
  have R1 : k = x := R1
  subst R1
  cases k with
  | true =>
    refine L2.iteT ?_
    exact ⟨γ1, st1, S1, wp_mono h (fun y st2 h v2 H2 γ2 T2 S2 R2 => h v2 H2 γ2 (T1.trans T2) S2 R2) fun _ _ e => e.trans T1⟩
  | false =>
    refine L2.iteF ?_
    exact h _ H1 γ1 T1 S1 rfl
theorem s_tor {m1 m2 : T} (ha : PT X a (tT B C m1)) (hb : PW X (.BoolOp .Or (b :: rest) pos) (tT B C m2)) : PW X (.BoolOp .Or (a :: b :: rest) pos) (tT B C (.or m1 m2)) := by
  refine (pw_or ha hb).mono fun σ H Qk ⟨γ, st, S, h⟩ => ?_
  rw [tst, wp_bind] at h
  refine ⟨γ, st, S, wp_mono h (fun x st1 h k H1 γ1 T1 S1 R1 => ?_) fun _ _ e => e⟩
  have R1 : k = x := R1
  subst R1
  cases k with
  | false =>
    refine L2.iteF ?_
    exact ⟨γ1, st1, S1, wp_mono h (fun y st2 h v2 H2 γ2 T2 S2 R2 => h v2 H2 γ2 (T1.trans T2) S2 R2) fun _ _ e => e.trans T1⟩
  | true =>
    refine L2.iteT ?_
    exact h _ H1 γ1 T1 S1 rfl
end
end Q
end
section
set_option maxHeartbeats 1000000
namespace Q
open PySem PySem.Spec PyProof.Rows
open L2 hiding cutV
theorem join_some {α : Type} {o : Option (Option α)} {a : α} (h : o.join = some a) : o = some (some a) := by
  cases o with
  | none => cases h
  | some x => cases x with
    | none => cases h
    | some y => cases h; rfl
theorem envAt_lt {st : ST} {i : Nat} {s : SV} (h : envAt st i = some s) : i < st.env.length := by
  have := join_some h
  exact (List.getElem?_eq_some_iff.mp this).1
theorem envAt_same {st : ST} {i : Nat} {s : Option SV} (h : i < st.env.length) : envAt (st.put i s) i = s := by
  unfold envAt ST.put
  simp [h]
theorem envAt_other {st : ST} {i j : Nat} {s : Option SV} (h : j ≠ i) : envAt (st.put i s) j = envAt st j := by
  unfold envAt ST.put
  dsimp only
  rw [List.getElem?_set_ne (Ne.symm h)]
theorem envAt_out {st : ST} {i : Nat} {s : Option SV} (h : ¬ i < st.env.length) : envAt (st.put i s) i = none := by
  unfold envAt ST.put
  dsimp only
  rw [List.getElem?_eq_none (by simpa using h)]
  rfl
theorem put_len {st : ST} {i : Nat} {s : Option SV} : (st.put i s).env.length = st.env.length := by simp [ST.put]
theorem put_g {st : ST} {i : Nat} {s : Option SV} : (st.put i s).g = st.g := rfl
section
variable {K : PySem.W.Frag} {H0 H H' : Hp} {γ γ' : Gm} {σ : L2.St} {st st' : ST} {v : V}
/-- a slot's list is a value from here on -/
theorem Sim.freeze (S : Sim K H γ σ st) {i : Nat} {xs : List PV} (h : envAt st i = some (.own (.lst xs))) :
    Sim K H γ σ (st.put i (some (.v (.lst xs)))) ∧ Tr H (Mu γ σ st) γ H (Mu γ σ (st.put i (some (.v (.lst xs))))) γ := by
  have hi := envAt_lt h
  have back : ∀ j s, envAt (st.put i (some (.v (.lst xs)))) j = some s → (j = i ∧ s = .v (.lst xs)) ∨ (j ≠ i ∧ envAt st j = some s) := fun j s e => by
    by_cases hj : j = i
    · subst hj
      rw [envAt_same hi] at e
      cases e
      exact .inl ⟨rfl, rfl⟩
    · rw [envAt_other hj] at e
      exact .inr ⟨hj, e⟩
  have sub : ∀ a, Mu γ σ (st.put i (some (.v (.lst xs)))) a → Mu γ σ st a := fun a m => by
    rcases m with m | ⟨j, d, e, q⟩
    · exact .inl m
    · rcases back j _ e with ⟨_, z⟩ | ⟨_, z⟩
      · cases z
      · exact .inr ⟨j, d, z, q⟩
  have T : Tr H (Mu γ σ st) γ H (Mu γ σ (st.put i (some (.v (.lst xs))))) γ := ⟨fun _ _ e _ => e, fun _ e => e, fun _ e => e, fun a m => .inl (sub a m), ⟨[], by simp⟩⟩
  refine ⟨⟨by rw [put_len]; exact S.len, fun j s e => ?_, fun j k d s a e1 e2 q1 q2 => ?_, S.gl, fun j d a e q => ?_, S.g0⟩, T⟩
  · rcases back j s e with ⟨rfl, rfl⟩ | ⟨hj, z⟩
    · obtain ⟨u, hu, a, rfl, vs, ha, r⟩ := S.sv j _ h
      refine ⟨_, hu, Rep.lst ha (fun m => ?_) (Reps.tr T r)⟩
      rcases m with m | ⟨k, d, e1, q⟩
      · exact S.sep j _ a h hu m
      · rcases back k _ e1 with ⟨_, z⟩ | ⟨hk, z⟩
        · cases z
        · exact hk (S.inj k j d _ a z h q hu)
    · obtain ⟨u, hu, r⟩ := S.sv j s z
      refine ⟨u, hu, ?_⟩
      cases s with
      | v p => exact Rep.tr T r
      | own d =>
        obtain ⟨a, e1, r⟩ := r
        exact ⟨a, e1, r.tr' T fun _ e => e⟩
  · rcases back j _ e1 with ⟨_, z⟩ | ⟨hj, z1⟩
    · cases z
    · rcases back k _ e2 with ⟨_, z⟩ | ⟨hk, z2⟩
      · cases z
      · exact S.inj j k d s a z1 z2 q1 q2
  · rcases back j _ e with ⟨_, z⟩ | ⟨hj, z⟩
    · cases z
    · exact S.sep j d a z q
theorem frzU (S : Sim K H γ σ st) {e : ER} {p : PV} (h : e.frz st = some (p, st')) (r : ErU K H γ σ st v e) :
    Sim K H γ σ st' ∧ Tr H (Mu γ σ st) γ H (Mu γ σ st') γ ∧ Rep K H (Mu γ σ st') γ v p := by
  unfold ER.frz at h
  split at h
  · cases h; exact ⟨S, Tr.refl, r⟩
  · cases h
    obtain ⟨a, rfl, n, vs, ha, rs⟩ := r
    exact ⟨S, Tr.refl, Rep.lst ha n rs⟩
  · cases h
  · rename_i i
    split at h
    · rename_i q
      cases h
      obtain ⟨u, hu, r'⟩ := S.sv i _ q
      have r0 : σ[i]? = some (some v) := r
      rw [r0] at hu; cases hu
      exact ⟨S, Tr.refl, r'⟩
    · rename_i xs q
      cases h
      obtain ⟨S', T⟩ := S.freeze q
      refine ⟨S', T, ?_⟩
      obtain ⟨u, hu, r'⟩ := S'.sv i _ (envAt_same (envAt_lt q))
      have r0 : σ[i]? = some (some v) := r
      rw [r0] at hu; cases hu
      exact r'
    · cases h
inductive ErUs (K : PySem.W.Frag) (H : Hp) (γ : Gm) (σ : L2.St) (st : ST) : List V → List ER → Prop
  | nil : ErUs K H γ σ st [] []
  | cons {v : V} {vs : List V} {e : ER} {es : List ER} : ErU K H γ σ st v e → ErUs K H γ σ st vs es → ErUs K H γ σ st (v :: vs) (e :: es)
theorem ErU.tr (t : Tr H (Mu γ σ st) γ H' (Mu γ' σ st') γ') {e : ER} (r : ErU K H γ σ st v e) : ErU K H' γ' σ st' v e := by
  cases e with
  | v p => exact Rep.tr t r
  | own d =>
    obtain ⟨a, h1, h3, h4⟩ := r
    obtain ⟨o, ho⟩ := h4.some
    exact ⟨a, h1, t.not ho h3, h4.tr t (.inl h3)⟩
  | slot i => exact r
theorem ErUs.tr (t : Tr H (Mu γ σ st) γ H' (Mu γ' σ st') γ') {vs : List V} {es : List ER} (r : ErUs K H γ σ st vs es) : ErUs K H' γ' σ st' vs es := by
  induction r with
  | nil => exact .nil
  | cons a b ih => exact .cons (a.tr t) ih
theorem frzLU : ∀ {es : List ER} {vs : List V} {ps : List PV} {st st' : ST}, Sim K H γ σ st → frzL es st = some (ps, st') → ErUs K H γ σ st vs es →
    Sim K H γ σ st' ∧ Tr H (Mu γ σ st) γ H (Mu γ σ st') γ ∧ Reps K H (Mu γ σ st') γ vs ps
  | [], _, ps, st, st', S, h, r => by
    cases r
    cases h
    exact ⟨S, Tr.refl, .nil⟩
  | e :: es, _, ps, st, st', S, h, r => by
    cases r with
    | cons r rs =>
      simp only [frzL] at h
      split at h
      · rename_i p st1 e1
        split at h
        · rename_i qs st2 e2
          cases h
          obtain ⟨S1, T1, R1⟩ := frzU S e1 r
          obtain ⟨S2, T2, R2⟩ := frzLU S1 e2 (rs.tr T1)
          exact ⟨S2, T1.trans T2, .cons (Rep.tr T2 R1) R2⟩
        · cases h
      · cases h
variable {Hs : Hp} {Ms : Addr → Prop} {γs : Gm}
theorem ErRs.unlock (T : Tr Hs Ms γs H (Mu γ σ st) γ) (hL : ∀ a, a ∈ γs.lock → Hs a ≠ none) (S : Sim K H γ σ st) {vs : List V} {es : List ER} (r : ErRs K Hs H γ σ st vs es) : ErUs K H (γ.at γs) σ st vs es := by
  induction r with
  | nil => exact .nil
  | cons a b h ih => exact .cons (a.unlock T hL S) ih
theorem Sim.lk (S : Sim K H γ σ st) : ∀ a, a ∈ γ.lock → H a ≠ none := fun a m e => by
  obtain ⟨o, z⟩ := S.gl a (.inr m)
  rw [e] at z; cases z
/-- results made values for good -/
theorem frz_ok (Ls : ∀ a, a ∈ γs.lock → Hs a ≠ none) (T : Tr Hs Ms γs H (Mu γ σ st) γ) (S : Sim K H γ σ st) {e : ER} {p : PV} (h : e.frz st = some (p, st')) (r : ErR K Hs H γ σ st v e) :
    Sim K H (γ.at γs) σ st' ∧ Tr Hs Ms γs H (Mu (γ.at γs) σ st') (γ.at γs) ∧ Rep K H (Mu (γ.at γs) σ st') (γ.at γs) v p := by
  obtain ⟨S1, T1, R1⟩ := frzU (S.unlock T.lock) h (r.unlock T Ls S)
  exact ⟨S1, T.unlock.trans T1, R1⟩
theorem frzL_ok (Ls : ∀ a, a ∈ γs.lock → Hs a ≠ none) (T : Tr Hs Ms γs H (Mu γ σ st) γ) (S : Sim K H γ σ st) {es : List ER} {vs : List V} {ps : List PV} (h : frzL es st = some (ps, st')) (r : ErRs K Hs H γ σ st vs es) :
    Sim K H (γ.at γs) σ st' ∧ Tr Hs Ms γs H (Mu (γ.at γs) σ st') (γ.at γs) ∧ Reps K H (Mu (γ.at γs) σ st') (γ.at γs) vs ps := by
  obtain ⟨S1, T1, R1⟩ := frzLU (S.unlock T.lock) h (r.unlock T Ls S)
  exact ⟨S1, T.unlock.trans T1, R1⟩
end
section
variable {X : Cx} {B : Bs} {C : Ctx} {a b d : Expr} {ma mb md : E} {pos : Pos} {es : List Expr} {ms : EL}
theorem s_nil : PA X [] (tL B C .nil) := by
  refine PA.mono pa_nil fun σ H Qk ⟨γ, st, S, h⟩ => ?_
  rw [evL] at h
  exact h [] H γ Tr.refl S .nil
theorem errs_new {K : PySem.W.Frag} {H0 H1 H2 : Hp} {γ1 γ2 : Gm} {σ : L2.St} {st1 st2 : ST} {v : V} {x : ER} {vs : List V} {es : List ER} (R1 : ErR K H0 H1 γ1 σ st1 v x) (R2 : ErRs K H1 H2 γ2 σ st2 vs es) :
    (∃ d, x = ER.own d) → ∀ (k : Nat) (d' : LD), es[k]? = some (ER.own d') → vs[k]? ≠ some v := fun ⟨d, e⟩ k d' h q => by
  subst e
  obtain ⟨a, rfl, _, _, o⟩ := R1
  obtain ⟨b, h1, h2, _⟩ := R2.own h
  rw [q] at h1
  cases h1
  obtain ⟨z, hz⟩ := o.some
  rw [h2] at hz
  cases hz
theorem s_cons (ha : PE X a (tE B C ma)) (hr : PA X es (tL B C ms)) (hs : starEach (a :: es) X.env = (false, eval a X.env) :: starEach es X.env) : PA X (a :: es) (tL B C (.cons ma ms)) := by
  refine PA.mono (pa_cons ha hr hs) fun σ H Qk ⟨γ, st, S, h⟩ => ?_
  rw [evL, wp_bind] at h
  refine ⟨γ, st, S, wp_mono h (fun x st1 h v1 H1 γ1 T1 S1 R1 => ?_) fun _ _ e => e⟩
  rw [wp_bind] at h
  exact ⟨γ1, st1, S1, wp_mono h (fun y st2 h vs H2 γ2 T2 S2 R2 => h (v1 :: vs) H2 γ2 (T1.trans T2) S2 (.cons (ErR.tr T2 R1) (ErRs.old T1.dom R2) (errs_new R1 R2))) fun _ _ e => e.trans T1⟩
theorem s_tup {k : Nat} (h : PA X es (tL B C ms)) : PE X (.Tuple es k pos) (tE B C (.tup ms)) := by
  refine (pe_tup h).mono fun σ H Qk ⟨γ, st, S, h⟩ => ?_
  rw [ev, wp_bind] at h
  refine ⟨γ, st, S, wp_mono h (fun xs st1 h vs H1 γ1 T1 S1 R1 => ?_) fun _ _ e => e⟩
  split at h
  · rename_i ps st2 hf
    split at h
    · rename_i hz
      obtain ⟨S2, T2, R2⟩ := frzL_ok S.lk T1 S1 hf R1
      refine ⟨by rw [R2.len, sizeL]; exact hz, fun p hp => ?_⟩
      exact h _ _ _ (T2.trans (Tr.ext (upd_ext hp))) (S2.ext (upd_ext hp)) (Rep.tup upd_same (S2.fresh hp) (reps_new hp R2))
    · exact h.elim
  · exact h.elim
theorem s_lst (h : PA X es (tL B C ms)) : PE X (.List es pos) (tE B C (.lst ms)) := by
  refine (pe_lst h).mono fun σ H Qk ⟨γ, st, S, h⟩ => ?_
  rw [ev, wp_bind] at h
  refine ⟨γ, st, S, wp_mono h (fun xs st1 h vs H1 γ1 T1 S1 R1 => ?_) fun _ _ e => e⟩
  split at h
  · rename_i ps st2 hf
    split at h
    · rename_i hz
      obtain ⟨S2, T2, R2⟩ := frzL_ok S.lk T1 S1 hf R1
      refine ⟨by rw [R2.len, sizeL]; exact hz, fun p hp => ?_⟩
      obtain ⟨γ3, T3, S3, R3⟩ := fin (er := .own (.lst ps)) T2 S2 (upd_ext hp) ⟨p, rfl, hp, fun M' hM' => ⟨_, upd_same, reps_own hp hM' R2⟩⟩
      exact h _ _ γ3 T3 S3 R3
    · exact h.elim
  · exact h.elim
theorem s_dnew {t : Bool} : PE X (.Dict [] [] pos) (tE B C (.dnew t)) := by
  cases t with
  | false =>
    refine PE.mono pe_dnewK fun σ H Qk ⟨γ, st, S, h⟩ p hp => ?_
    rw [ev] at h
    obtain ⟨γ3, T3, S3, R3⟩ := fin (er := .own (.dct false [])) Tr.refl S (upd_ext (o := .dK []) hp) ⟨p, rfl, hp, fun M' hM' => ⟨[], upd_same, .nil⟩⟩
    exact h _ _ γ3 T3 S3 R3
  | true =>
    refine PE.mono pe_dnewT fun σ H Qk ⟨γ, st, S, h⟩ p hp => ?_
    rw [ev] at h
    obtain ⟨γ3, T3, S3, R3⟩ := fin (er := .own (.dct true [])) Tr.refl S (upd_ext (o := .dT []) hp) ⟨p, rfl, hp, fun M' hM' => ⟨[], upd_same, .nil⟩⟩
    exact h _ _ γ3 T3 S3 R3
/-! subscripts -/
theorem ix_dict {n : Nat} (hr : Room n X.A) : IxR X (fun x y H Qk => ∃ a v, x = .ref a ∧ DGet H a y (some v) ∧ Qk v H) := by
  intro value slice pins s σ H x y v u Qk I rx ry h hs
  obtain ⟨a, z, rfl, g, q⟩ := h
  cases rx
  have hT := dict_typeIs I g
  have hu : X.A.units + 1 < cLine := by have := units64 hr; omega
  unfold subscriptTail
  refine wpAny_bind ?_
  rw [getitemInPython_of_ne hT.not_modules]
  refine wpAny_bind (wpAny_specialOf hT PySem.F.slot_dict_getitem.lookup ?_)
  have last : wpAny (model X.prog X.w) X.A (subscripted slice false (.ref a) u) (fun r s₃ => wpAny (model X.prog X.w) X.A (letTemporaryGo value (.ref a) r >>= fun _ => pure r) (EP X pins σ Qk) X.xe s₃) X.xe s := by
    rw [hs]
    exact wpAny_operating (d_getItem hu I g ry fun r s₃ I3 rr => wpAny_bind (wpAny_letTemporaryGo (wpAny_pure ⟨z, H, I3, rr, q⟩)))
  first
    | exact wpAny_pure (wpAny_bind last)
    | exact wpAny_bind (wpAny_pure (wpAny_bind last))
    | exact wpAny_bind last
theorem ixN_eq (n : Nat) (i : Int) : L2.ixN n i = Q.ixN n i := rfl
theorem ixAll {n : Nat} (hr : Room n X.A) : IxR X (rO2 X.K fun x y => (ixO x y).map .v) := by
  intro value slice pins s σ H x y v u Qk I rx ry h hs
  obtain ⟨M, γ, dx, dy, er, hx, hy, hM, hf, hq⟩ := h
  obtain ⟨p, hp, rfl⟩ := Option.map_eq_some_iff.mp hf
  have hq : ∀ v, Rep X.K H M γ v p → Qk v H := fun v r => hq v H Ext.refl r
  unfold ixO at hp
  split at hp
  · split at hp
    · rename_i t kvs k ek
      split at hp
      · rename_i hk
        obtain ⟨a, rfl, o⟩ := hx
        have rp : Rep X.K H M γ y k := by
          unfold DV.pv at ek
          split at ek
          · cases ek; exact hy
          · cases ek
            cases t <;> exact absurd hk (by simp [keyOk, flatKey])
          · cases ek
        obtain ⟨r, g0, hm⟩ := own_get o rp hk
        rw [hp] at hm
        cases r with
        | none => exact hm.elim
        | some z => exact ix_dict hr value slice pins s σ H _ y v u Qk I rx ry ⟨a, z, rfl, g0, hq _ hm⟩ hs
      · cases hp
    · cases hp
  · split at hp
    · rename_i hz
      obtain ⟨j, e1, h1⟩ := Option.bind_eq_some_iff.mp hp
      obtain ⟨c, e2, rfl⟩ := Option.map_eq_some_iff.mp h1
      cases hx; cases hy
      refine ix_str value slice pins s σ H _ _ v u Qk I rx ry ⟨_, _, c, rfl, rfl, by rw [sizeL]; exact hz, ?_, hq _ (Rep.str _)⟩ hs
      unfold atI
      have e0 : ∀ z : Str, z.cps.toList.length = z.length := fun z => by simp [Str.length]
      rw [e0, ixN_eq, e1]
      exact e2
    · cases hp
  · obtain ⟨xs, e0, h0⟩ := Option.bind_eq_some_iff.mp hp
    obtain ⟨j, e1, h1⟩ := Option.bind_eq_some_iff.mp h0
    cases hy
    obtain ⟨a, vs, rfl, hsq, rs⟩ := hx.seq e0
    obtain ⟨z, ez, rz⟩ := rs.get h1
    have at' : ∀ i : Int, Q.ixN xs.length i = some j → atI vs i = some z := fun i q => by
      unfold atI
      rw [rs.len, ixN_eq, q]
      exact ez
    rcases hsq with hs1 | hs1
    · exact ix_list value slice pins s σ H _ _ v u Qk I rx ry ⟨_, _, _, _, rfl, rfl, hs1, at' _ e1, hq _ rz⟩ hs
    · exact ix_tup value slice pins s σ H _ _ v u Qk I rx ry ⟨_, _, _, _, rfl, rfl, hs1, at' _ e1, hq _ rz⟩ hs
  · cases hp
theorem s_idx {n : Nat} (hB : B.K = X.K) (hr : Room n X.A) (ha : PE X a (tE B C ma)) (hb : PE X b (tE B C mb)) (hp : PlainIx b) : PE X (.Subscript a b pos) (tE B C (.idx ma mb)) := by
  refine s_op2 (f := fun x y => (ixO x y).map .v) hB (fun st => ?_) (fun _ _ _ _ h => h) (pe_ix (ixAll hr) ha hb hp)
  rw [ev]
  refine congrArg _ (funext fun x => funext fun st => congrArg _ (funext fun y => funext fun st => ?_))
  cases ixO (x.get st) (y.get st) <;> rfl
end
end Q
end
section
set_option maxHeartbeats 1000000
namespace Q
open PySem PySem.Spec PyProof.Rows
open L2 hiding cutV
section
variable {K : PySem.W.Frag} {H0 H H' : Hp} {γ γ' : Gm} {σ : L2.St} {st st' : ST} {v : V}
/-- an owned object is written -/
theorem Sim.write (S : Sim K H γ σ st) {i : Nat} {d d' : LD} {a : Addr} {o : HO} (h : envAt st i = some (.own d)) (ha : σ[i]? = some (some (.ref a)))
    (new : ∀ H', Tr H (Mu γ σ st) γ H' (Mu γ σ st) γ → H' a = some o → OwnR K H' (Mu γ σ st) γ a d') :
    Sim K (upd H a o) γ σ (st.put i (some (.own d'))) ∧ Tr H (Mu γ σ st) γ (upd H a o) (Mu γ σ (st.put i (some (.own d')))) γ := by
  have hi := envAt_lt h
  have hm : Mu γ σ st a := .inr ⟨i, d, h, ha⟩
  have back : ∀ j s, envAt (st.put i (some (.own d'))) j = some s → (j = i ∧ s = .own d') ∨ (j ≠ i ∧ envAt st j = some s) := fun j s e => by
    by_cases hj : j = i
    · subst hj
      rw [envAt_same hi] at e
      cases e
      exact .inl ⟨rfl, rfl⟩
    · rw [envAt_other hj] at e
      exact .inr ⟨hj, e⟩
  have mu : Mu γ σ (st.put i (some (.own d'))) = Mu γ σ st := by
    funext b
    refine propext ⟨fun m => ?_, fun m => ?_⟩
    · rcases m with m | ⟨j, e, h1, q⟩
      · exact .inl m
      · rcases back j _ h1 with ⟨rfl, z⟩ | ⟨_, z⟩
        · exact .inr ⟨j, d, h, q⟩
        · exact .inr ⟨j, e, z, q⟩
    · rcases m with m | ⟨j, e, h1, q⟩
      · exact .inl m
      · by_cases hj : j = i
        · subst hj
          exact .inr ⟨j, d', envAt_same hi, q⟩
        · exact .inr ⟨j, e, by rw [envAt_other hj]; exact h1, q⟩
  have T : Tr H (Mu γ σ st) γ (upd H a o) (Mu γ σ st) γ := by
    refine ⟨fun b u e n => ?_, fun b m => m, fun b e => ?_, fun b m => .inl m, ⟨[], by simp⟩⟩
    · rw [upd_ne fun z => ?_]
      · exact e
      · subst z
        rcases n with n | n
        · exact n hm
        · exact S.sep i d b h ha (.inr n)
    · by_cases hb : b = a
      · subst hb; rw [upd_same] at e; cases e
      · rw [upd_ne hb] at e; exact e
  rw [mu]
  refine ⟨⟨by rw [put_len]; exact S.len, fun j s e => ?_, fun j k d1 s b e1 e2 q1 q2 => ?_, fun b m => ?_, fun j d1 b e q => ?_, S.g0⟩, T⟩
  · rw [mu]
    rcases back j s e with ⟨rfl, rfl⟩ | ⟨hj, z⟩
    · exact ⟨_, ha, a, rfl, new _ T upd_same⟩
    · obtain ⟨u, hu, r⟩ := S.sv j s z
      refine ⟨u, hu, ?_⟩
      cases s with
      | v p => exact Rep.tr T r
      | own d1 =>
        obtain ⟨b, e1, r⟩ := r
        subst e1
        refine ⟨b, rfl, r.tr' T fun u e => ?_⟩
        rw [upd_ne fun w => hj (S.inj j i d1 _ b z h hu (by rw [w]; exact ha))]
        exact e
  · rcases back j _ e1 with ⟨rfl, z⟩ | ⟨hj, z1⟩
    · rcases back k _ e2 with ⟨rfl, z2⟩ | ⟨hk, z2⟩
      · rfl
      · exact S.inj j k d s b h z2 q1 q2
    · rcases back k _ e2 with ⟨rfl, _⟩ | ⟨hk, z2⟩
      · exact S.inj j k d1 _ b z1 h q1 q2
      · exact S.inj j k d1 s b z1 z2 q1 q2
  · obtain ⟨u, e⟩ := S.gl b m
    by_cases hb : b = a
    · subst hb
      exact ⟨_, upd_same⟩
    · exact ⟨u, by rw [upd_ne hb]; exact e⟩
  · rcases back j _ e with ⟨rfl, z⟩ | ⟨hj, z⟩
    · exact S.sep j d b h q
    · exact S.sep j d1 b z q
end
inductive DvRs (K : PySem.W.Frag) (H : Hp) (M : Addr → Prop) (γ : Gm) : List V → List DV → Prop
  | nil : DvRs K H M γ [] []
  | cons {v : V} {vs : List V} {x : DV} {xs : List DV} : DvR K H M γ v x → DvRs K H M γ vs xs → DvRs K H M γ (v :: vs) (x :: xs)
theorem ErRs.dvs {K : PySem.W.Frag} {H0 H : Hp} {γ : Gm} {σ : L2.St} {st : ST} (S : Sim K H γ σ st) {vs : List V} {es : List ER} (r : ErRs K H0 H γ σ st vs es) : DvRs K H (Mu γ σ st) γ vs (es.map (ER.get st)) := by
  induction r with
  | nil => exact .nil
  | cons a b h ih => exact .cons (a.dv S) ih
/-- what a call of values asks -/
def rBl (K : PySem.W.Frag) (f : List DV → Option ER) : List V → Hp → VK → Prop := fun vs H Qk => ∃ (M : Addr → Prop) (γ : Gm) (ds : List DV) (er : ER), DvRs K H M γ vs ds ∧ (∀ a, M a → H a ≠ none) ∧ f ds = some er ∧
  ∀ v H', Ext H H' → ResR K H H' M γ v er → Qk v H'
section
variable {X : Cx} {B : Bs} {C : Ctx} {a b d : Expr} {ma mb md : E} {pos : Pos} {es : List Expr} {ms : EL}
theorem slAll : SlR X (fun x lo hi H Qk => ∃ (M : Addr → Prop) (γ : Gm) (dx : DV) (er : ER), DvR X.K H M γ x dx ∧ (∀ a, M a → H a ≠ none) ∧ slO dx lo hi = some er ∧ ∀ v H', Ext H H' → ResR X.K H H' M γ v er → Qk v H') := by
  intro pins s σ H x v vl vu lo hi sl Qk I rx hs pl pu h
  obtain ⟨M, γ, dx, er, hx, hM, hf, hq⟩ := h
  unfold slO at hf
  split at hf
  · split at hf
    · rename_i hz
      cases hf
      cases hx
      refine sl_str pins s σ H _ v vl vu lo hi sl Qk I rx hs pl pu ⟨_, rfl, by rw [sizeL]; exact hz, ?_⟩
      refine hq _ H Ext.refl ?_
      have e : ∀ z : Str, cutS z lo hi = ⟨(cut z.cps.toList lo hi).toArray⟩ := fun z => by
        unfold cutS cut
        have e0 : z.cps.toList.length = z.length := by simp [Str.length]
        rw [e0]
      rw [e]
      exact Rep.str _
    · cases hf
  · cases hf
    cases hx with
    | tup h1 n1 r1 =>
      have hc : ∀ {H' : Hp}, Ext H H' → Reps X.K H' M γ (L2.cutV _ lo hi) (cut _ lo hi) := fun E => by
        unfold L2.cutV cut
        rw [r1.len]
        exact Reps.take _ (Reps.drop _ (Reps.tr (Tr.ext E) r1))
      refine sl_tupA pins s σ H _ v vl vu lo hi sl Qk I rx hs pl pu ⟨_, _, rfl, SqT.of h1, fun w => ?_, fun w p hp => ?_⟩
      · refine hq _ H Ext.refl (Rep.tup h1 n1 ?_)
        have e := hc (H' := H) Ext.refl
        unfold L2.cutV at e
        rw [w.1, w.2] at e
        simpa using e
      · exact hq _ _ (upd_ext hp) (Rep.tup upd_same (fun m => hM p m hp) (hc (upd_ext hp)))
  · cases hf
    obtain ⟨a, vs, rfl, hsq, rs⟩ := DvR.seq (x := .v (.scr _)) rfl hx
    have hsq : SqL X.K H a vs := by
      rcases hsq with z | z
      · exact z
      · exfalso
        obtain ⟨b, ws, e, q1, _⟩ := DvR.seq (x := .v (.scr _)) rfl hx
        cases hx with
        | scr w =>
          rcases w with ⟨w, _⟩ | w
          · obtain ⟨_, _, p1, _⟩ := I.list (.inl w)
            obtain ⟨_, _, p2, _⟩ := I.tuple z
            obtain ⟨o, _, e1, c1, _⟩ := p1
            obtain ⟨o2, e2, c2, _⟩ := p2
            rw [e1] at e2; cases e2
            rw [c1] at c2
            simp at c2
          · obtain ⟨_, _, p1, _⟩ := I.list w.sq
            obtain ⟨_, _, p2, _⟩ := I.tuple z
            obtain ⟨o, _, e1, c1, _⟩ := p1
            obtain ⟨o2, e2, c2, _⟩ := p2
            rw [e1] at e2; cases e2
            rw [c1] at c2
            simp at c2
    refine sl_list pins s σ H _ v vl vu lo hi sl Qk I rx hs pl pu ⟨_, _, rfl, hsq, fun p hp => ?_⟩
    refine hq _ _ (upd_ext hp) ⟨p, rfl, hp, fun M' hM' => ⟨_, upd_same, ?_⟩⟩
    unfold L2.cutV cut
    rw [rs.len]
    exact Reps.take _ (Reps.drop _ (reps_own hp hM' rs))
  · obtain ⟨xs, e, rfl⟩ := Option.map_eq_some_iff.mp hf
    obtain ⟨a, vs, rfl, hl, rs⟩ := hx.lst e
    refine sl_list pins s σ H _ v vl vu lo hi sl Qk I rx hs pl pu ⟨_, _, rfl, SqL.of hl, fun p hp => ?_⟩
    refine hq _ _ (upd_ext hp) ⟨p, rfl, hp, fun M' hM' => ⟨_, upd_same, ?_⟩⟩
    unfold L2.cutV cut
    rw [rs.len]
    exact Reps.take _ (Reps.drop _ (reps_own hp hM' rs))
def relO : Hp → Gm → ST → Option Int → Option Int → Prop := fun _ _ _ b a => b = a
def tO (B : Bs) (C : Ctx) (m : OE) : TO := fun σ H Qk => ∃ γ st, Sim B.K H γ σ st ∧ (evO C m st).wp (okK B σ H γ st relO Qk) (excK B σ H γ st)
theorem _root_.L2.PO.mono {X : Cx} {e : Option Expr} {t t' : TO} (h : PO X e t) (imp : ∀ σ H Qk, t' σ H Qk → t σ H Qk) : PO X e t' := ⟨fun pins s σ H Qk I q => h.run pins s σ H Qk I (imp σ H Qk q)⟩
theorem s_no : PO X none (tO B C .no) := by
  refine PO.mono po_none fun σ H Qk ⟨γ, st, S, h⟩ => ?_
  rw [evO] at h
  exact h none H γ Tr.refl S rfl
theorem s_yes (ha : PE X a (tE B C ma)) : PO X (some a) (tO B C (.yes ma)) := by
  refine PO.mono (po_some ha) fun σ H Qk ⟨γ, st, S, h⟩ => ?_
  rw [evO, wp_bind] at h
  refine ⟨γ, st, S, wp_mono h (fun x st1 h v1 H1 γ1 T1 S1 R1 => ?_) fun _ _ e => e⟩
  have D := ErR.dv S1 R1
  split at h
  · rename_i i q
    rw [q] at D
    cases D
    exact ⟨i, rfl, h _ H1 γ1 T1 S1 rfl⟩
  · exact h.elim
theorem s_sl {lo hi : Option Expr} {ml mh : OE} {p2 : Pos} (hB : B.K = X.K) (ha : PE X a (tE B C ma)) (hl : PO X lo (tO B C ml)) (hh : PO X hi (tO B C mh)) : PE X (.Subscript a (.Slice lo hi none p2) pos) (tE B C (.sl ma ml mh)) := by
  refine (pe_slice slAll ha hl hh).mono fun σ H Qk ⟨γ, st, S, h⟩ => ?_
  rw [ev, wp_bind] at h
  refine ⟨γ, st, S, wp_mono h (fun x st1 h v1 H1 γ1 T1 S1 R1 => ?_) fun _ _ e => e⟩
  rw [wp_bind] at h
  refine ⟨γ1, st1, S1, wp_mono h (fun l st2 h l' H2 γ2 T2 S2 R2 => ?_) fun _ _ e => e.trans T1⟩
  have R2 : l' = l := R2
  subst R2
  rw [wp_bind] at h
  refine ⟨γ2, st2, S2, wp_mono h (fun u st3 h u' H3 γ3 T3 S3 R3 => ?_) fun _ _ e => (e.trans T1).trans T2⟩
  have R3 : u' = u := R3
  subst R3
  cases q : slO (x.get st3) l' u' with
  | none => rw [q] at h; exact h.elim
  | some er =>
    rw [q] at h
    have R1' : ErR B.K H H3 γ3 σ st3 v1 x := ErR.tr (T2.trans T3) R1
    refine ⟨Mu γ3 σ st3, γ3, _, er, hB ▸ R1'.dv S3, S3.mu0, q, fun v H4 E4 R4 => ?_⟩
    rw [← hB] at R4
    obtain ⟨γ4, T4, S4, R⟩ := fin (T1.trans (T2.trans T3)) S3 E4 R4
    exact h v H4 γ4 T4 S4 R
/-! built-in functions -/
/-- what a call of a built-in asks: from the arguments -/
theorem s_blt {f : BF} {r : List V → Hp → VK → Prop} {e : Expr} (hB : B.K = X.K) (h : PE X e (tCB r (tL B C ms))) (hr : ∀ vs H Qk, rBl X.K (bltO f) vs H Qk → r vs H Qk) : PE X e (tE B C (.blt f ms)) := by
  refine h.mono fun σ H Qk ⟨γ, st, S, h⟩ => ?_
  rw [ev, wp_bind] at h
  refine ⟨γ, st, S, wp_mono h (fun xs st1 h vs H1 γ1 T1 S1 R1 => hr _ _ _ ?_) fun _ _ e => e⟩
  cases q : bltO f (xs.map (ER.get st1)) with
  | none => rw [q] at h; exact h.elim
  | some er =>
    rw [q] at h
    refine ⟨Mu γ1 σ st1, γ1, _, er, hB ▸ ErRs.dvs S1 R1, S1.mu0, q, fun v H4 E4 R4 => ?_⟩
    rw [← hB] at R4
    obtain ⟨γ4, T4, S4, R⟩ := fin T1 S1 E4 R4
    exact h v H4 γ4 T4 S4 R
theorem dvs1 {K : PySem.W.Frag} {H : Hp} {M : Addr → Prop} {γ : Gm} {vs : List V} {x : DV} (h : DvRs K H M γ vs [x]) : ∃ v, vs = [v] ∧ DvR K H M γ v x := by
  cases h with
  | cons a b => cases b; exact ⟨_, rfl, a⟩
theorem dvs2 {K : PySem.W.Frag} {H : Hp} {M : Addr → Prop} {γ : Gm} {vs : List V} {x y : DV} (h : DvRs K H M γ vs [x, y]) : ∃ v w, vs = [v, w] ∧ DvR K H M γ v x ∧ DvR K H M γ w y := by
  cases h with
  | cons a b => cases b with
    | cons c d => cases d; exact ⟨_, _, rfl, a, c⟩
theorem cLen : CallR X (.builtin "len") (rBl X.K (bltO .len)) := by
  intro pins s σ H xs us Qk I r h
  obtain ⟨M, γ, ds, er, hd, hM, hf, hq⟩ := h
  unfold bltO at hf
  split at hf <;> first | contradiction | skip
  · obtain ⟨v, rfl, hx⟩ := dvs1 hd
    split at hf
    · rename_i hz
      cases hf
      cases hx
      exact call_len_str pins s σ H _ us Qk I r ⟨_, rfl, by rw [sizeL]; exact hz, hq _ H Ext.refl (Rep.int _)⟩
    · cases hf
  · obtain ⟨v, rfl, hx⟩ := dvs1 hd
    split at hf
    · rename_i ht
      cases hf
      subst ht
      obtain ⟨a, rfl, ks, hk, hp⟩ := hx
      refine call_len_dT pins s σ H _ us Qk I r ⟨_, _, rfl, hk, ?_⟩
      rw [hp.length]
      exact hq _ H Ext.refl (Rep.int _)
    · cases hf
  · obtain ⟨v, rfl, hx⟩ := dvs1 hd
    obtain ⟨xs, e, rfl⟩ := Option.map_eq_some_iff.mp hf
    obtain ⟨a, vs, rfl, hsq, rs⟩ := hx.seq e
    refine call_len_seq pins s σ H _ us Qk I r ⟨_, _, rfl, hsq, ?_⟩
    rw [rs.len]
    exact hq _ H Ext.refl (Rep.int _)
theorem cInt : CallR X (.type "int") (rBl X.K (bltO .int)) := by
  intro pins s σ H xs us Qk I r h
  obtain ⟨M, γ, ds, er, hd, hM, hf, hq⟩ := h
  unfold bltO at hf
  split at hf <;> first | contradiction | skip
  · obtain ⟨v, rfl, hx⟩ := dvs1 hd
    cases hf; cases hx
    exact call_int1 pins s σ H _ us Qk I r (.inl ⟨_, rfl, hq _ H Ext.refl (Rep.int _)⟩)
  · obtain ⟨v, rfl, hx⟩ := dvs1 hd
    cases hf; cases hx
    exact call_int1 pins s σ H _ us Qk I r (.inr ⟨_, rfl, hq _ H Ext.refl (Rep.int _)⟩)
theorem cBool : CallR X (.type "bool") (rBl X.K (bltO .bool)) := by
  intro pins s σ H xs us Qk I r h
  obtain ⟨M, γ, ds, er, hd, hM, hf, hq⟩ := h
  unfold bltO at hf
  split at hf <;> first | contradiction | skip
  · obtain ⟨v, rfl, hx⟩ := dvs1 hd
    cases hf; cases hx
    exact call_bool1 pins s σ H _ us Qk I r (.inr ⟨_, rfl, hq _ H Ext.refl (Rep.bl _)⟩)
  · obtain ⟨v, rfl, hx⟩ := dvs1 hd
    cases hf; cases hx
    exact call_bool1 pins s σ H _ us Qk I r (.inl ⟨_, rfl, hq _ H Ext.refl (Rep.bl _)⟩)
theorem cAbs : CallR X (.builtin "abs") (rBl X.K (bltO .abs)) := by
  intro pins s σ H xs us Qk I r h
  obtain ⟨M, γ, ds, er, hd, hM, hf, hq⟩ := h
  unfold bltO at hf
  split at hf <;> first | contradiction | skip
  obtain ⟨v, rfl, hx⟩ := dvs1 hd
  cases hf; cases hx
  exact call_abs pins s σ H _ us Qk I r ⟨_, rfl, hq _ H Ext.refl (Rep.int _)⟩
theorem cStr : CallR X (.type "str") (rBl X.K (bltO .str)) := by
  intro pins s σ H xs us Qk I r h
  obtain ⟨M, γ, ds, er, hd, hM, hf, hq⟩ := h
  unfold bltO at hf
  split at hf <;> first | contradiction | skip
  obtain ⟨v, rfl, hx⟩ := dvs1 hd
  split at hf
  · rename_i hz
    cases hf; cases hx
    exact call_str_int pins s σ H _ us Qk I r ⟨_, rfl, hz, hq _ H Ext.refl (Rep.str _)⟩
  · cases hf
theorem cMax (hc : X.calm = true) : CallR X (.builtin "max") (rBl X.K (bltO .max2)) := by
  intro pins s σ H xs us Qk I r h
  obtain ⟨M, γ, ds, er, hd, hM, hf, hq⟩ := h
  unfold bltO at hf
  split at hf <;> first | contradiction | skip
  obtain ⟨v, w, rfl, hx, hy⟩ := dvs2 hd
  cases hf; cases hx; cases hy
  exact call_max2 hc pins s σ H _ us Qk I r ⟨_, _, rfl, hq _ H Ext.refl (Rep.int _)⟩
theorem cMin (hc : X.calm = true) : CallR X (.builtin "min") (rBl X.K (bltO .min2)) := by
  intro pins s σ H xs us Qk I r h
  obtain ⟨M, γ, ds, er, hd, hM, hf, hq⟩ := h
  unfold bltO at hf
  split at hf <;> first | contradiction | skip
  obtain ⟨v, w, rfl, hx, hy⟩ := dvs2 hd
  cases hf; cases hx; cases hy
  exact call_min2 hc pins s σ H _ us Qk I r ⟨_, _, rfl, hq _ H Ext.refl (Rep.int _)⟩
theorem cAll (hc : X.calm = true) : CallR X (.builtin "all") (rBl X.K (bltO .all)) := by
  intro pins s σ H xs us Qk I r h
  obtain ⟨M, γ, ds, er, hd, hM, hf, hq⟩ := h
  unfold bltO at hf
  split at hf <;> first | contradiction | skip
  obtain ⟨v, rfl, hx⟩ := dvs1 hd
  obtain ⟨bs, e, rfl⟩ := Option.map_eq_some_iff.mp hf
  obtain ⟨ys, e1, e2⟩ := Option.bind_eq_some_iff.mp e
  obtain ⟨a, vs, rfl, hl, rs⟩ := hx.lst e1
  have z := Reps.boolsOf rs e2
  subst z
  exact cr_all hc pins s σ H _ us Qk I r ⟨_, _, rfl, SqL.of hl, hq _ H Ext.refl (Rep.bl _)⟩
theorem cList : CallR X (.type "list") (rBl X.K (bltO .list)) := by
  intro pins s σ H xs us Qk I r h
  obtain ⟨M, γ, ds, er, hd, hM, hf, hq⟩ := h
  unfold bltO at hf
  split at hf <;> first | contradiction | skip
  obtain ⟨v, rfl, hx⟩ := dvs1 hd
  obtain ⟨ys, e, rfl⟩ := Option.map_eq_some_iff.mp hf
  obtain ⟨a, vs, rfl, hsq, rs⟩ := hx.seq e
  exact call_list_of pins s σ H _ us Qk I r ⟨_, _, rfl, hsq, fun p hp => hq _ _ (upd_ext hp) ⟨p, rfl, hp, fun M' hM' => ⟨_, upd_same, reps_own hp hM' rs⟩⟩⟩
theorem cTuple : CallR X (.type "tuple") (rBl X.K (bltO .tuple)) := by
  intro pins s σ H xs us Qk I r h
  obtain ⟨M, γ, ds, er, hd, hM, hf, hq⟩ := h
  unfold bltO at hf
  split at hf <;> first | contradiction | skip
  obtain ⟨v, rfl, hx⟩ := dvs1 hd
  obtain ⟨ys, e, rfl⟩ := Option.map_eq_some_iff.mp hf
  obtain ⟨a, vs, rfl, hsq, rs⟩ := hx.seq e
  refine call_tuple_of pins s σ H _ us Qk I r ⟨_, vs, rfl, ?_⟩
  rcases hsq with h1 | h1
  · exact .inl ⟨h1, fun p hp => hq _ _ (upd_ext hp) (Rep.tup upd_same (fun m => hM p m hp) (reps_new hp rs))⟩
  · refine .inr ⟨h1, hq _ H Ext.refl ?_⟩
    unfold DV.seq at e
    split at e
    · cases e; exact hx
    · cases e
      cases hx with
      | lst h2 n2 r2 =>
        exfalso
        obtain ⟨_, _, p1, _⟩ := I.list (SqL.of h2)
        obtain ⟨_, _, p2, _⟩ := I.tuple h1
        obtain ⟨o, _, e1, c1, _⟩ := p1
        obtain ⟨o2, e2, c2, _⟩ := p2
        rw [e1] at e2; cases e2
        rw [c1] at c2
        simp at c2
    · cases e
      exfalso
      cases hx with
      | scr w =>
        obtain ⟨zs, q⟩ : ∃ zs, SqL X.K H a zs := by
          rcases w with ⟨w, _⟩ | w
          · exact ⟨_, .inl w⟩
          · exact ⟨_, w.sq⟩
        obtain ⟨_, _, p1, _⟩ := I.list q
        obtain ⟨_, _, p2, _⟩ := I.tuple h1
        obtain ⟨o, _, e1, c1, _⟩ := p1
        obtain ⟨o2, e2, c2, _⟩ := p2
        rw [e1] at e2; cases e2
        rw [c1] at c2
        simp at c2
    · cases e
      exfalso
      obtain ⟨b, eb, ws, h2, r2⟩ := hx
      cases eb
      obtain ⟨_, _, p1, _⟩ := I.list (SqL.of h2)
      obtain ⟨_, _, p2, _⟩ := I.tuple h1
      obtain ⟨o, _, e1, c1, _⟩ := p1
      obtain ⟨o2, e2, c2, _⟩ := p2
      rw [e1] at e2; cases e2
      rw [c1] at c2
      simp at c2
    · cases e
/-- repr -/
theorem cRepr {n : Nat} (hr : Room n X.A) (hg : X.A.guards = some []) : CallR X (.builtin "repr") (rBl X.K (bltO .repr)) := by
  intro pins s σ H xs us Qk I r h
  obtain ⟨M, γ, ds, er, hd, hM, hf, hq⟩ := h
  unfold bltO at hf
  split at hf <;> first | contradiction | skip
  obtain ⟨v, rfl, hx⟩ := dvs1 hd
  split at hf
  · rename_i p ep
    split at hf
    · rename_i hz
      cases hf
      simp only [Bool.and_eq_true, decide_eq_true_eq] at hz
      obtain ⟨⟨h0, h1⟩, h4⟩ := hz
      have h3 := SeqAt.depth_of_shaped h0
      obtain ⟨u, rfl, ru⟩ := vals1 r
      have fin : ∀ (h' : Heap) (u' : Tok) (tk : Nat), (∀ b o, s.heap.get? b = some o → h'.get? b = some o) → EP X pins σ Qk (.str p.toD.shown u') { s with heap := h', toks := tk } := fun h' u' tk k =>
        ⟨.str _, H, I.kept k, ⟨u', rfl⟩, hq _ H Ext.refl (Rep.str _)⟩
      have hsz : p.toD.shown.length ≤ sizeLine := by rw [sizeL]; exact h4
      have box : (∃ a, v = .ref a) → wpAny (model X.prog X.w) X.A (PySem.call (.builtin "repr") [u]) (EP X pins σ Qk) X.xe s := fun ⟨a, ea⟩ => by
        subst ea
        cases ru
        obtain ⟨as, rd⟩ := Dp.reads I p.toD (.ref a) (.ref a) (hx.dp ep (fit_lay h0)) rfl
        refine repr_of_reads' rd h1 (PyData.noDict_hsm (PyData.hasDict_of_canLay _ (fit_lay h0))) hg (by have := units64 hr; omega) (fun _ _ e => e) (fun h' u' tk k => ?_) hsz
        exact fin h' u' tk k
      unfold DV.pv at ep
      split at ep
      · cases ep
        cases hx with
        | non =>
          cases ru
          exact P.repr_of_none (fin s.heap s.toks (s.toks + 1) fun _ _ e => e)
        | bl b =>
          cases ru
          exact P.repr_of_bool (by
            have := fin s.heap s.toks (s.toks + 1) fun _ _ e => e
            cases b <;> exact this)
        | int i =>
          obtain ⟨t, rfl⟩ := ru
          exact P.repr_of_int (of_decide_eq_true h1) (fin s.heap s.toks (s.toks + 1) fun _ _ e => e)
        | str x =>
          obtain ⟨t, rfl⟩ := ru
          exact P.repr_of_str (fin s.heap s.toks (s.toks + 1) fun _ _ e => e) hsz
        | tup _ _ _ => exact box ⟨_, rfl⟩
        | lst _ _ _ => exact box ⟨_, rfl⟩
        | scr _ => exact box ⟨_, rfl⟩
        | obj _ => exact box ⟨_, rfl⟩
      · obtain ⟨a, rfl, _⟩ := hx
        exact box ⟨a, rfl⟩
      · cases ep
    · cases hf
  · cases hf
end
end Q
end
section
set_option maxHeartbeats 1000000
namespace Q
open PySem PySem.Spec PyProof.Rows
open L2 hiding cutV
/-! ### lists changed -/
def rMut (K : PySem.W.Frag) (m : MM) : V → List V → Hp → VK → Prop := fun x vs H Qk => ∃ (M : Addr → Prop) (γ : Gm) (a : Addr) (ws : List V) (xs ps : List PV) (r0 : PV) (xs' : List PV), x = .ref a ∧ H a = some (.lst ws) ∧
  Reps K H M γ ws xs ∧ Reps K H M γ vs ps ∧ mutO m xs ps = some (r0, xs') ∧ ∀ v ws', Rep K H M γ v r0 → Reps K H M γ ws' xs' → Qk v (upd H a (.lst ws'))
section
variable {K : PySem.W.Frag} {H : Hp} {M : Addr → Prop} {γ : Gm}
theorem reps1 {vs : List V} {p : PV} (h : Reps K H M γ vs [p]) : ∃ v, vs = [v] ∧ Rep K H M γ v p := by
  cases h with
  | cons a b => cases b; exact ⟨_, rfl, a⟩
theorem reps2 {vs : List V} {p q : PV} (h : Reps K H M γ vs [p, q]) : ∃ v w, vs = [v, w] ∧ Rep K H M γ v p ∧ Rep K H M γ w q := by
  cases h with
  | cons a b => cases b with
    | cons c d => cases d; exact ⟨_, _, rfl, a, c⟩
theorem reps_init : ∀ {xs : List PV} {vs : List V}, Reps K H M γ vs xs → Reps K H M γ vs.dropLast xs.dropLast
  | [], _, .nil => .nil
  | [_], _, .cons _ .nil => .nil
  | _ :: _ :: _, _, .cons a (.cons b c) => .cons a (reps_init (.cons b c))
theorem reps_erase : ∀ {xs : List PV} {vs : List V} (k : Nat), Reps K H M γ vs xs → Reps K H M γ (vs.eraseIdx k) (xs.eraseIdx k)
  | _, _, _, .nil => by simpa using Reps.nil
  | _, _, 0, .cons _ t => t
  | _, _, k + 1, .cons r t => .cons r (reps_erase k t)
end
section
variable {X : Cx}
theorem mAppend : MtR X "list.append" (rMut X.K .append) := by
  intro pins s σ H x vs v us Qk I rx rv h
  obtain ⟨M, γ, a, ws, xs, ps, r0, xs', rfl, hl, r1, r2, hm, hq⟩ := h
  unfold mutO at hm
  split at hm <;> first | contradiction | skip
  obtain ⟨y, rfl, ry⟩ := reps1 r2
  split at hm
  · rename_i hz
    cases hm
    exact mt_append pins s σ H _ _ v us Qk I rx rv ⟨_, _, _, rfl, rfl, hl, by rw [r1.len, sizeL]; exact hz, hq _ _ Rep.non (Reps.app r1 (.cons ry .nil))⟩
  · cases hm
theorem mExtend : MtR X "list.extend" (rMut X.K .extend) := by
  intro pins s σ H x vs v us Qk I rx rv h
  obtain ⟨M, γ, a, ws, xs, ps, r0, xs', rfl, hl, r1, r2, hm, hq⟩ := h
  unfold mutO at hm
  split at hm <;> first | contradiction | skip
  obtain ⟨y, rfl, ry⟩ := reps1 r2
  split at hm
  · rename_i hz
    cases hm
    cases ry with
    | lst h1 n1 r3 =>
      exact mt_extend pins s σ H _ _ v us Qk I rx rv ⟨_, _, _, _, rfl, rfl, hl, h1, by rw [r1.len, r3.len]; exact fits hz, hq _ _ Rep.non (Reps.app r1 r3)⟩
  · cases hm
theorem mPop : MtR X "list.pop" (rMut X.K .pop) := by
  intro pins s σ H x vs v us Qk I rx rv h
  obtain ⟨M, γ, a, ws, xs, ps, r0, xs', rfl, hl, r1, r2, hm, hq⟩ := h
  unfold mutO at hm
  split at hm <;> first | contradiction | skip
  cases r2
  obtain ⟨y, e, z⟩ := Option.map_eq_some_iff.mp hm
  cases z
  rw [List.getLast?_eq_getElem?] at e
  obtain ⟨w, ew, rw'⟩ := r1.get e
  rw [← r1.len] at ew
  exact mt_pop pins s σ H _ _ v us Qk I rx rv ⟨_, _, _, rfl, rfl, hl, ew, hq _ _ rw' (reps_init r1)⟩
theorem mPopAt : MtR X "list.pop" (rMut X.K .popAt) := by
  intro pins s σ H x vs v us Qk I rx rv h
  obtain ⟨M, γ, a, ws, xs, ps, r0, xs', rfl, hl, r1, r2, hm, hq⟩ := h
  unfold mutO at hm
  split at hm <;> first | contradiction | skip
  obtain ⟨y, rfl, ry⟩ := reps1 r2
  cases ry
  obtain ⟨k, e1, hm⟩ := Option.bind_eq_some_iff.mp hm
  obtain ⟨y, e2, z⟩ := Option.map_eq_some_iff.mp hm
  cases z
  obtain ⟨w, ew, rw'⟩ := r1.get e2
  rw [← r1.len] at e1
  rename_i i _ _
  have e1' : L2.ixN ws.length i = some k := e1
  obtain ⟨s1, s2, s3, s4⟩ := ixN_seq e1'
  have hw : ws.length ≤ sizeLine := (I.list (SqL.of hl)).choose_spec.2.2
  rw [sizeL] at hw
  unfold line at hw
  exact mt_popAt pins s σ H _ _ v us Qk I rx rv ⟨_, _, _, _, _, rfl, rfl, hl, by omega, by omega, s1, ew, hq _ _ rw' (reps_erase _ r1)⟩
theorem mInsert : MtR X "list.insert" (rMut X.K .insert) := by
  intro pins s σ H x vs v us Qk I rx rv h
  obtain ⟨M, γ, a, ws, xs, ps, r0, xs', rfl, hl, r1, r2, hm, hq⟩ := h
  unfold mutO at hm
  split at hm <;> first | contradiction | skip
  obtain ⟨y, z, rfl, ry, rz⟩ := reps2 r2
  cases ry
  split at hm
  · rename_i hz
    cases hm
    exact mt_insert pins s σ H _ _ v us Qk I rx rv ⟨_, _, _, _, rfl, rfl, hl, by rw [r1.len, sizeL]; exact hz.2.2, hz.1, hz.2.1, hq _ _ Rep.non (Reps.app (Reps.app (Reps.take _ r1) (.cons rz .nil)) (Reps.drop _ r1))⟩
  · cases hm
theorem mClear : MtR X "list.clear" (rMut X.K .clear) := by
  intro pins s σ H x vs v us Qk I rx rv h
  obtain ⟨M, γ, a, ws, xs, ps, r0, xs', rfl, hl, r1, r2, hm, hq⟩ := h
  unfold mutO at hm
  split at hm <;> first | contradiction | skip
  cases r2
  cases hm
  exact mt_clear pins s σ H _ _ v us Qk I rx rv ⟨_, _, rfl, rfl, hl, hq _ _ Rep.non .nil⟩
end
section
variable {X : Cx} {B : Bs} {C : Ctx} {a b d : Expr} {ma mb md : E} {pos : Pos} {es : List Expr} {ms : EL}
/-- behind the arguments: the list is changed -/
theorem s_mutG {m : MM} {i : Nat} {t : TA} {σ : L2.St} {H : Hp} {Qk : VK} (hB : B.K = X.K) (ht : ∀ σ H Qk, tL B C ms σ H Qk → t σ H Qk) (h : tE B C (.mut m i ms) σ H Qk) : tBM X.K "list" (rMut X.K m) (tVar i) t σ H Qk := by
  obtain ⟨γ, st, S, h⟩ := h
  rw [ev] at h
  split at h
  · rename_i ho
    unfold ownsL at ho
    split at ho
    · rename_i xs0 q0
      obtain ⟨v, hv, a, rfl, ws0, hl0, r0⟩ := S.sv i _ q0
      refine ⟨_, hv, .inl ⟨rfl, _, SqL.of hl0⟩, ht _ _ _ ?_⟩
      rw [wp_bind] at h
      refine ⟨γ, st, S, wp_mono h (fun es st1 h vs H1 γ1 T1 S1 R1 => ?_) fun _ _ e => e⟩
      split at h
      · rename_i ps st2 hf
        obtain ⟨S2, T2, R2⟩ := frzL_ok S.lk T1 S1 hf R1
        split at h
        · rename_i xs q
          split at h
          · rename_i r1 xs' hm
            obtain ⟨u, hu, b, rfl, ws, hl, rs⟩ := S2.sv i _ q
            rw [hv] at hu
            cases hu
            refine ⟨Mu (γ1.at γ) σ st2, γ1.at γ, _, ws, xs, ps, r1, xs', rfl, hl, hB ▸ rs, hB ▸ R2, hm, fun v ws' rv rws => ?_⟩
            rw [← hB] at rv rws
            have W := Sim.write (K := B.K) (o := .lst ws') (d' := .lst xs') S2 q hv fun H' T e => ⟨ws', e, Reps.tr T rws⟩
            exact h v _ _ (T2.trans W.2) W.1 (Rep.tr W.2 rv)
          · exact h.elim
        · exact h.elim
      · exact h.elim
    · cases ho
  · exact h.elim
/-! ### isinstance -/
theorem dv_ty {H : Hp} {M : Addr → Prop} {γ : Gm} {v : V} {x : DV} {c : CT} {r : Bool} (h : DvR X.K H M γ v x) (e : isiO x c = some r) : ∃ t, TyX X.K H v (.type t) ∧ kitB t c.name = some r := by
  cases x with
  | bad => cases c <;> cases e
  | d l =>
    cases l with
    | dct _ _ => cases c <;> cases e
    | lst xs =>
      obtain ⟨a, rfl, vs, hl, _⟩ := h
      refine ⟨"list", .base (.lst hl), ?_⟩
      cases c <;> cases e <;> decide +kernel
  | v p =>
    have h : Rep X.K H M γ v p := h
    cases h with
    | non => refine ⟨"NoneType", .base .non, ?_⟩; cases c <;> cases e <;> decide +kernel
    | bl b => refine ⟨"bool", .base (.bl b), ?_⟩; cases c <;> cases e <;> decide +kernel
    | int b => refine ⟨"int", .base (.int b), ?_⟩; cases c <;> cases e <;> decide +kernel
    | str b => refine ⟨"str", .base (.str b), ?_⟩; cases c <;> cases e <;> decide +kernel
    | tup hl _ _ => refine ⟨"tuple", .base (.tup hl), ?_⟩; cases c <;> cases e <;> decide +kernel
    | lst hl _ _ => refine ⟨"list", .base (.lst hl), ?_⟩; cases c <;> cases e <;> decide +kernel
    | scr w =>
      have k : kitB "list" c.name = some r := by cases c <;> cases e <;> decide +kernel
      rcases w with ⟨w | ⟨o, w⟩, _⟩ | ⟨o, its, n, w, hc, _⟩
      · exact ⟨"list", .base (.lst w), k⟩
      · exact ⟨"list", .base (.frz w), k⟩
      · exact ⟨"list", .kList w hc, k⟩
    | obj _ => cases c <;> cases e
theorem s_isi {x : Str} {c : CT} {p1 p2 : Pos} (hB : B.K = X.K) (h : PE X (.Call (.Name "isinstance" p1) [a, .Name x p2] [] pos) (tCB (rIsi X.K) (tCons (tE B C ma) (tCons (tC (.ty c.name)) tNil)))) :
    PE X (.Call (.Name "isinstance" p1) [a, .Name x p2] [] pos) (tE B C (.isi ma c)) := by
  refine h.mono fun σ H Qk ⟨γ, st, S, h⟩ => ?_
  rw [ev, wp_bind] at h
  refine ⟨γ, st, S, wp_mono h (fun x st1 h v1 H1 γ1 T1 S1 R1 => ?_) fun _ _ e => e⟩
  have D := ErR.dv S1 R1
  cases q : isiO (x.get st1) c with
  | none => rw [q] at h; exact h.elim
  | some k =>
    rw [q] at h
    obtain ⟨t, ty, e⟩ := dv_ty (X := X) (hB ▸ D) q
    exact ⟨_, _, _, _, k, rfl, ClsV.ty _, ty, kit_ty e, h _ H1 γ1 T1 S1 (Rep.bl _)⟩
/-! ### methods -/
theorem s_meth1 {m : MF} {o : Expr} {mo : E} {r : V → List V → Hp → VK → Prop} {P : V → Hp → Prop} {e : Expr} (hB : B.K = X.K)
    (h : PE X e (fun σ H Qk => tE B C mo σ H fun x H1 => P x H1 ∧ tL B C ms σ H1 fun vs H2 => r x vs H2 Qk))
    (hP : ∀ H M γ v dv, DvR X.K H M γ v dv → recvOk m dv = true → P v H)
    (hr : ∀ x vs H Qk (M : Addr → Prop) γ dx ds er, DvR X.K H M γ x dx → DvRs X.K H M γ vs ds → (∀ a, M a → H a ≠ none) → methO m dx ds = some er → (∀ v H', Ext H H' → ResR X.K H H' M γ v er → Qk v H') → r x vs H Qk) :
    PE X e (tE B C (.meth m mo ms)) := by
  refine h.mono fun σ H Qk ⟨γ, st, S, h⟩ => ?_
  rw [ev, wp_bind] at h
  refine ⟨γ, st, S, wp_mono h (fun x st1 h v1 H1 γ1 T1 S1 R1 => ?_) fun _ _ e => e⟩
  have R1' : ErR B.K H H1 γ1 σ st1 v1 x := R1
  split at h
  · rename_i ho
    refine ⟨hP _ _ _ _ _ (hB ▸ R1'.dv S1) ho, ?_⟩
    rw [wp_bind] at h
    refine ⟨γ1, st1, S1, wp_mono h (fun xs st2 h vs H2 γ2 T2 S2 R2 => ?_) fun _ _ e => e.trans T1⟩
    cases q : methO m (x.get st2) (xs.map (ER.get st2)) with
    | none => rw [q] at h; exact h.elim
    | some er =>
      rw [q] at h
      have R1'' : ErR B.K H H2 γ2 σ st2 v1 x := ErR.tr T2 R1'
      refine hr _ _ _ _ (Mu γ2 σ st2) γ2 _ _ er (hB ▸ R1''.dv S2) (hB ▸ ErRs.dvs S2 R2) S2.mu0 q fun v H3 E3 R3 => ?_
      rw [← hB] at R3
      obtain ⟨γ3, T3, S3, R⟩ := fin (T1.trans T2) S2 E3 R3
      exact h v H3 γ3 T3 S3 R
  · exact h.elim
end
end Q
end
section
set_option maxHeartbeats 1000000
namespace Q
open PySem PySem.Spec PyProof.Rows
open L2 hiding cutV
/-! ### stores -/
section
variable {K : PySem.W.Frag} {H0 H H' : Hp} {M0 : Addr → Prop} {γ0 γ γ' : Gm} {σ : L2.St} {st st' : ST} {v : V}
theorem get_set_same {σ : L2.St} {i : Nat} {v : V} (h : i < σ.length) : (σ.set i (some v))[i]? = some (some v) := List.getElem?_set_self h
theorem get_set_other {σ : L2.St} {i j : Nat} {o : Option V} (h : j ≠ i) : (σ.set i o)[j]? = σ[j]? := List.getElem?_set_ne (Ne.symm h)
/-- a value is stored -/
theorem Sim.store (S : Sim K H γ σ st) {p : PV} (i : Nat) (r : Rep K H (Mu γ σ st) γ v p) :
    Sim K H γ (σ.set i (some v)) (st.put i (some (.v p))) ∧ Tr H (Mu γ σ st) γ H (Mu γ (σ.set i (some v)) (st.put i (some (.v p)))) γ := by
  have back : ∀ j s, envAt (st.put i (some (.v p))) j = some s → (j = i ∧ s = .v p ∧ i < σ.length) ∨ (j ≠ i ∧ envAt st j = some s) := fun j s e => by
    by_cases hj : j = i
    · subst hj
      by_cases hi : j < st.env.length
      · rw [envAt_same hi] at e
        cases e
        exact .inl ⟨rfl, rfl, by rw [← S.len]; exact hi⟩
      · rw [envAt_out hi] at e; cases e
    · rw [envAt_other hj] at e
      exact .inr ⟨hj, e⟩
  have sub : ∀ a, Mu γ (σ.set i (some v)) (st.put i (some (.v p))) a → Mu γ σ st a := fun a m => by
    rcases m with m | ⟨j, d, e, q⟩
    · exact .inl m
    · rcases back j _ e with ⟨_, z, _⟩ | ⟨hj, z⟩
      · cases z
      · rw [get_set_other hj] at q
        exact .inr ⟨j, d, z, q⟩
  have T : Tr H (Mu γ σ st) γ H (Mu γ (σ.set i (some v)) (st.put i (some (.v p)))) γ := ⟨fun _ _ e _ => e, fun _ e => e, fun _ e => e, fun a m => .inl (sub a m), ⟨[], by simp⟩⟩
  refine ⟨⟨by rw [put_len, List.length_set]; exact S.len, fun j s e => ?_, fun j k d s a e1 e2 q1 q2 => ?_, S.gl, fun j d a e q => ?_, S.g0⟩, T⟩
  · rcases back j s e with ⟨rfl, rfl, hi⟩ | ⟨hj, z⟩
    · exact ⟨v, get_set_same hi, Rep.tr T r⟩
    · obtain ⟨u, hu, r⟩ := S.sv j s z
      refine ⟨u, by rw [get_set_other hj]; exact hu, ?_⟩
      cases s with
      | v p => exact Rep.tr T r
      | own d =>
        obtain ⟨a, e1, r⟩ := r
        exact ⟨a, e1, r.tr' T fun _ e => e⟩
  · rcases back j _ e1 with ⟨_, z, _⟩ | ⟨hj, z1⟩
    · cases z
    · rcases back k _ e2 with ⟨_, z, _⟩ | ⟨hk, z2⟩
      · cases z
      · rw [get_set_other hj] at q1
        rw [get_set_other hk] at q2
        exact S.inj j k d s a z1 z2 q1 q2
  · rcases back j _ e with ⟨_, z, _⟩ | ⟨hj, z⟩
    · cases z
    · rw [get_set_other hj] at q
      exact S.sep j d a z q

/-- a new object is stored: from then on the slot owns it -/
theorem Sim.storeOwn {γs : Gm} (S : Sim K H γ σ st) (T0 : Tr H0 M0 γs H (Mu γ σ st) γ) (Ls : ∀ a, a ∈ γs.lock → H0 a ≠ none) {d : LD} (i : Nat) (r : ErR K H0 H γ σ st v (.own d)) :
    Sim K H (γ.at γs) (σ.set i (some v)) (st.put i (some (.own d))) ∧ Tr H0 M0 γs H (Mu (γ.at γs) (σ.set i (some v)) (st.put i (some (.own d)))) (γ.at γs) := by
  obtain ⟨a, rfl, h0, hl, o⟩ := r
  have ma : Mu γ σ st a := .inl (.inr hl)
  have hn : ¬ (γ.at γs).has a := fun m => by
    rcases m with m | m
    · rw [show (γ.at γs).obj = γ.obj from rfl, S.g0.1] at m; cases m
    · exact Ls a m h0
  have back : ∀ j s, envAt (st.put i (some (.own d))) j = some s → (j = i ∧ s = .own d ∧ i < σ.length) ∨ (j ≠ i ∧ envAt st j = some s) := fun j s e => by
    by_cases hj : j = i
    · subst hj
      by_cases hi : j < st.env.length
      · rw [envAt_same hi] at e
        cases e
        exact .inl ⟨rfl, rfl, by rw [← S.len]; exact hi⟩
      · rw [envAt_out hi] at e; cases e
    · rw [envAt_other hj] at e
      exact .inr ⟨hj, e⟩
  have hm : ∀ b, (γ.at γs).has b → γ.has b := fun b m => by
    rcases m with m | m
    · exact .inl m
    · exact .inr (T0.lock b m)
  have sub : ∀ b, Mu (γ.at γs) (σ.set i (some (.ref a))) (st.put i (some (.own d))) b → Mu γ σ st b := fun b m => by
    rcases m with m | ⟨j, e, h1, q⟩
    · exact .inl (hm b m)
    · rcases back j _ h1 with ⟨rfl, _, hi⟩ | ⟨hj, z⟩
      · rw [get_set_same hi] at q
        cases q
        exact ma
      · rw [get_set_other hj] at q
        exact .inr ⟨j, e, z, q⟩
  have T : Tr H (Mu γ σ st) ⟨γ.obj, []⟩ H (Mu (γ.at γs) (σ.set i (some (.ref a))) (st.put i (some (.own d)))) (γ.at γs) :=
    ⟨fun _ _ e _ => e, fun _ m => absurd m (by simp), fun _ e => e, fun b m => .inl (sub b m), ⟨[], by simp [Gm.at]⟩⟩
  refine ⟨⟨by rw [put_len, List.length_set]; exact S.len, fun j s e => ?_, fun j k d1 d2 b e1 e2 q1 q2 => ?_, fun b m => S.gl b (hm b m), fun j d1 b e q => ?_, S.g0⟩, ⟨T0.keep, fun _ m => m, T0.dom, fun b m => T0.mu b (sub b m), T0.gam⟩⟩
  · rcases back j s e with ⟨rfl, rfl, hi⟩ | ⟨hj, z⟩
    · exact ⟨.ref a, get_set_same hi, a, rfl, (OwnR.gam (γ := γ) (γ' := ⟨γ.obj, []⟩) rfl o).tr' T fun _ e => e⟩
    · obtain ⟨u, hu, r⟩ := S.sv j s z
      refine ⟨u, by rw [get_set_other hj]; exact hu, ?_⟩
      cases s with
      | v p => exact Rep.tr T (Rep.gam (γ := γ) (γ' := ⟨γ.obj, []⟩) rfl r)
      | own d1 =>
        obtain ⟨b, e1, r⟩ := r
        exact ⟨b, e1, (OwnR.gam (γ := γ) (γ' := ⟨γ.obj, []⟩) rfl r).tr' T fun _ e => e⟩
  · rcases back j _ e1 with ⟨rfl, _, hi⟩ | ⟨hj, z1⟩
    · rcases back k _ e2 with ⟨rfl, _, _⟩ | ⟨hk, z2⟩
      · rfl
      · rw [get_set_same hi] at q1
        cases q1
        rw [get_set_other hk] at q2
        exact absurd (.inr hl) (S.sep k d2 a z2 q2)
    · rcases back k _ e2 with ⟨rfl, _, hi⟩ | ⟨hk, z2⟩
      · rw [get_set_same hi] at q2
        cases q2
        rw [get_set_other hj] at q1
        exact absurd (.inr hl) (S.sep j d1 a z1 q1)
      · rw [get_set_other hj] at q1
        rw [get_set_other hk] at q2
        exact S.inj j k d1 d2 b z1 z2 q1 q2
  · rcases back j _ e with ⟨rfl, _, hi⟩ | ⟨hj, z⟩
    · rw [get_set_same hi] at q
      cases q
      exact hn
    · rw [get_set_other hj] at q
      exact fun m => S.sep j d1 b z q (hm b m)
end
end Q
end
section
set_option maxHeartbeats 1000000
namespace Q
open PySem PySem.Spec PyProof.Rows
open L2 hiding cutV
section
variable {K : PySem.W.Frag} {H0 H H' : Hp} {M0 : Addr → Prop} {γ0 γ γ' : Gm} {σ σ' : L2.St} {st st' : ST} {v : V}
/-- other slots' contents where nothing is told -/
theorem Sim.re (S : Sim K H γ σ st) (hl : σ'.length = σ.length) (h : ∀ i s, envAt st i = some s → σ'[i]? = σ[i]?) : Sim K H γ σ' st ∧ Mu γ σ' st = Mu γ σ st := by
  have mu : Mu γ σ' st = Mu γ σ st := by
    funext b
    refine propext ⟨fun m => ?_, fun m => ?_⟩
    · rcases m with m | ⟨j, e, h1, q⟩
      · exact .inl m
      · exact .inr ⟨j, e, h1, by rw [← h j _ h1]; exact q⟩
    · rcases m with m | ⟨j, e, h1, q⟩
      · exact .inl m
      · exact .inr ⟨j, e, h1, by rw [h j _ h1]; exact q⟩
  refine ⟨⟨by rw [S.len, hl], fun i s e => ?_, fun i j d d' a e1 e2 q1 q2 => ?_, S.gl, fun i d a e q => ?_, S.g0⟩, mu⟩
  · obtain ⟨v, hv, r⟩ := S.sv i s e
    exact ⟨v, by rw [h i s e]; exact hv, by rw [mu]; exact r⟩
  · rw [h i _ e1] at q1
    rw [h j _ e2] at q2
    exact S.inj i j d d' a e1 e2 q1 q2
  · rw [h i _ e] at q
    exact S.sep i d a e q
/-- fewer slots told -/
theorem Sim.sub (S : Sim K H γ σ st) (hl : st'.env.length = st.env.length) (hg : st'.g = st.g) (h : ∀ i s, envAt st' i = some s → envAt st i = some s) : Sim K H γ σ st' ∧ Tr H (Mu γ σ st) γ H (Mu γ σ st') γ := by
  have T : Tr H (Mu γ σ st) γ H (Mu γ σ st') γ := ⟨fun _ _ e _ => e, fun _ e => e, fun _ e => e, fun a m => .inl (by
    rcases m with m | ⟨j, e, h1, q⟩
    · exact .inl m
    · exact .inr ⟨j, e, h j _ h1, q⟩), ⟨[], by simp⟩⟩
  refine ⟨⟨by rw [hl, S.len], fun i s e => ?_, fun i j d d' a e1 e2 q1 q2 => S.inj i j d d' a (h _ _ e1) (h _ _ e2) q1 q2, S.gl, fun i d a e q => S.sep i d a (h _ _ e) q, ⟨S.g0.1, by rw [hg]; exact S.g0.2⟩⟩, T⟩
  obtain ⟨v, hv, r⟩ := S.sv i s (h i s e)
  refine ⟨v, hv, ?_⟩
  cases s with
  | v p => exact Rep.tr T r
  | own d =>
    obtain ⟨a, e1, r⟩ := r
    exact ⟨a, e1, r.tr' T fun _ e => e⟩
theorem wipeE_len (e : Env) : ∀ ws : List Nat, (wipeE e ws).length = e.length
  | [] => rfl
  | i :: r => by rw [wipeE, List.length_set, wipeE_len e r]
theorem wipeS_len (ws : List Nat) : (wipeS st ws).env.length = st.env.length := wipeE_len _ _
theorem wipeE_at (e : Env) : ∀ (ws : List Nat) (i : Nat) (s : SV), ((wipeE e ws)[i]?).join = some s → (e[i]?).join = some s ∧ i ∉ ws
  | [], i, s, h => ⟨h, by simp⟩
  | w :: r, i, s, h => by
    rw [wipeE] at h
    by_cases hw : i = w
    · subst hw
      exfalso
      by_cases hi : i < (wipeE e r).length
      · rw [List.getElem?_set_self hi] at h; cases h
      · rw [List.getElem?_eq_none (by simpa using hi)] at h; cases h
    · rw [List.getElem?_set_ne (Ne.symm hw)] at h
      obtain ⟨h1, h2⟩ := wipeE_at e r i s h
      exact ⟨h1, by simp [hw, h2]⟩
theorem wipeS_at {ws : List Nat} {i : Nat} {s : SV} (h : envAt (wipeS st ws) i = some s) : envAt st i = some s ∧ i ∉ ws := wipeE_at st.env ws i s h
theorem Sim.wipe (S : Sim K H γ σ st) (ws : List Nat) : Sim K H γ σ (wipeS st ws) ∧ Tr H (Mu γ σ st) γ H (Mu γ σ (wipeS st ws)) γ :=
  S.sub (wipeS_len ws) rfl fun i s e => (wipeS_at e).1
/-- .. and the true slots' -/
theorem Sim.wiped (S : Sim K H γ σ (wipeS st ws)) (hl : σ'.length = σ.length) (he : L2.wipe σ' ws = L2.wipe σ ws) : Sim K H γ σ' (wipeS st ws) ∧ Mu γ σ' (wipeS st ws) = Mu γ σ (wipeS st ws) := by
  refine S.re hl fun i s e => ?_
  obtain ⟨_, hw⟩ := wipeS_at e
  rw [← wipe_out (σ := σ') (vs := ws) hw, ← wipe_out (σ := σ) (vs := ws) hw, he]
theorem wipe_wipe (σ : L2.St) : ∀ ws : List Nat, L2.wipe (L2.wipe σ ws) ws = L2.wipe σ ws := fun ws => by
  refine List.ext_getElem? fun i => ?_
  by_cases h : i ∈ ws
  · have : ∀ τ : L2.St, τ.length = σ.length → (L2.wipe τ ws)[i]? = if i < σ.length then some none else none := fun τ hτ => by
      rw [← hτ]
      clear hτ
      induction ws with
      | nil => cases h
      | cons w r ih =>
        rw [L2.wipe]
        by_cases hw : w = i
        · subst hw
          by_cases hi : w < τ.length
          · rw [if_pos hi, List.getElem?_set_self (by rw [wipe_length]; exact hi)]
          · rw [if_neg hi, List.getElem?_eq_none (by rw [List.length_set, wipe_length]; omega)]
        · rw [List.getElem?_set_ne hw]
          exact ih (by
            rcases List.mem_cons.mp h with h | h
            · exact absurd h.symm hw
            · exact h)
    rw [this _ (wipe_length _ _), this _ rfl]
  · rw [wipe_out h]
theorem wipe_set {σ : L2.St} {o : Option V} {i : Nat} : ∀ {ws : List Nat}, i ∈ ws → L2.wipe (σ.set i o) ws = L2.wipe σ ws := fun {ws} h => by
  refine List.ext_getElem? fun j => ?_
  by_cases hj : j ∈ ws
  · have : ∀ τ : L2.St, τ.length = σ.length → (L2.wipe τ ws)[j]? = if j < σ.length then some none else none := fun τ hτ => by
      rw [← hτ]
      clear hτ
      clear h
      induction ws with
      | nil => cases hj
      | cons w r ih =>
        rw [L2.wipe]
        by_cases hw : w = j
        · subst hw
          by_cases hi : w < τ.length
          · rw [if_pos hi, List.getElem?_set_self (by rw [wipe_length]; exact hi)]
          · rw [if_neg hi, List.getElem?_eq_none (by rw [List.length_set, wipe_length]; omega)]
        · rw [List.getElem?_set_ne hw]
          exact ih (by
            rcases List.mem_cons.mp hj with h | h
            · exact absurd h.symm hw
            · exact h)
    rw [this _ (by simp), this _ rfl]
  · rw [wipe_out hj, wipe_out hj, List.getElem?_set_ne (fun e => hj (by rw [← e]; exact h))]
/-! ### targets -/
/-- the target's slots -/
def Tg.slots : Tg → List Nat
  | .v i => [i]
  | .t is => is
/-- as HandS reads it -/
def gNames : List Nat → TGs
  | [] => gNil
  | i :: r => gCons (gName i) (gNames r)
def gTg (K : PySem.W.Frag) : Tg → TG
  | .v i => gName i
  | .t is => gTup K is.length (gNames is)
theorem putAll_ok {Qk : L2.St → Hp → Prop} {ws : List Nat} : ∀ {is : List Nat} {xs : List PV} {vs : List V} {σ : L2.St} {st st' : ST}, (∀ i ∈ is, i ∈ ws) → Sim K H γ σ st → Reps K H (Mu γ σ st) γ vs xs → putAll st is xs = some st' →
    (∀ σ', σ'.length = σ.length → L2.wipe σ' ws = L2.wipe σ ws → Sim K H γ σ' st' → Tr H (Mu γ σ st) γ H (Mu γ σ' st') γ → Qk σ' H) → gNames is vs σ H Qk
  | [], xs, vs, σ, st, st', hw, S, r, h, k => by
    cases r with
    | nil =>
      cases h
      exact ⟨rfl, k σ rfl rfl S Tr.refl⟩
    | cons _ _ => cases h
  | i :: is, xs, vs, σ, st, st', hw, S, r, h, k => by
    cases r with
    | nil => cases h
    | cons r rs =>
      obtain ⟨S1, T1⟩ := S.store i r
      exact ⟨_, _, rfl, putAll_ok (fun j hj => hw j (.tail _ hj)) S1 (Reps.tr T1 rs) h fun σ' e1 e2 S2 T2 => k σ' (by rw [e1, List.length_set]) (by rw [e2, wipe_set (hw i (.head _))]) S2 (T1.trans T2)⟩
theorem putAll_len : ∀ {is : List Nat} {xs : List PV} {st st' : ST}, putAll st is xs = some st' → xs.length = is.length
  | [], [], _, _, _ => rfl
  | [], _ :: _, _, _, h => by cases h
  | _ :: _, [], _, _, h => by cases h
  | _ :: is, _ :: xs, _, _, h => by rw [List.length_cons, List.length_cons, putAll_len (is := is) h]
theorem putTo_ok {Qk : L2.St → Hp → Prop} {ws : List Nat} {t : Tg} {x : PV} (hw : ∀ i ∈ t.slots, i ∈ ws) (S : Sim K H γ σ st) (r : Rep K H (Mu γ σ st) γ v x) (h : putTo t x st = some st')
    (k : ∀ σ', σ'.length = σ.length → L2.wipe σ' ws = L2.wipe σ ws → Sim K H γ σ' st' → Tr H (Mu γ σ st) γ H (Mu γ σ' st') γ → Qk σ' H) : gTg K t v σ H Qk := by
  cases t with
  | v i =>
    cases h
    obtain ⟨S1, T1⟩ := S.store i r
    exact k _ (by rw [List.length_set]) (wipe_set (hw i (.head _))) S1 T1
  | t is =>
    unfold putTo at h
    dsimp only at h
    split at h
    · cases r with
      | tup ha n rs =>
        exact ⟨_, _, rfl, SqT.of ha, by rw [rs.len, putAll_len h], putAll_ok hw S rs h k⟩
    · cases h
theorem stTg_put {C : Ctx} {t : Tg} {x : PV} (h : stTg C t x st = some st') : putTo t x st = some st' := by
  unfold stTg at h
  unfold putTo
  cases t with
  | v i =>
    dsimp only at h
    split at h
    · cases h
    · exact h
  | t is =>
    dsimp only at h
    split at h
    · cases h
    · exact h
end
/-! ### iteration -/
def iAny (K : PySem.W.Frag) (te : TE) : TI := fun σ H R => te σ H fun v H1 => (∃ a, v = .ref a ∧ (((∃ xs, SqL K H1 a xs) ∧ R (Itl K a) H1) ∨ ((∃ xs, SqT K H1 a xs) ∧ R (Itt K a) H1))) ∨ ∃ x, v = .str x ∧ R (Its x) H1
theorem pi_any {X : Cx} {tg e : Expr} {te : TE} (he : PE X e te) : PI X tg e (iAny X.K te) := ⟨fun pins s σ H R I h => thn (he.run pins s σ H _ I h) fun v s1 ⟨y, H1, I1, r1, q1⟩ => by
  rcases q1 with ⟨a, rfl, q1⟩ | ⟨x, rfl, q⟩
  · cases r1
    rcases q1 with ⟨⟨xs, hx⟩, q⟩ | ⟨⟨xs, hx⟩, q⟩
    · obtain ⟨its, _, p, _⟩ := I1.list hx
      exact wpAny_pyIter_list p.isList (pi_one (tk := s1.toks) I1 _ (turn_list a _) ⟨_, Heap.get?_push_size _ rfl, rfl, rfl⟩ q)
    · obtain ⟨its, _, p, _⟩ := I1.tuple hx
      exact wpAny_pyIter_tuple (show s1.heap.IsTuple a its.toArray from p) (pi_one (tk := s1.toks) I1 _ (turn_tuple a _) ⟨_, Heap.get?_push_size _ rfl, rfl, rfl⟩ q)
  · obtain ⟨t, rfl⟩ := r1
    cases hA : x.cps.all (· < 128) with
    | false => exact wpAny_pyIter_wide hA (pi_one (tk := s1.toks) I1 _ (turn_str _ x t "str_iterator" (Or.inr rfl)) ⟨_, Heap.get?_push_size _ rfl, rfl, rfl⟩ q)
    | true => exact wpAny_pyIter_ascii hA (pi_one (tk := s1.toks) I1 _ (turn_str _ x t "str_ascii_iterator" (Or.inl rfl)) ⟨_, Heap.get?_push_size _ rfl, rfl, rfl⟩ q)⟩
/-- J goes through xs, now and later -/
def ItR (K : PySem.W.Frag) (J : It) (xs : List PV) (H : Hp) (M : Addr → Prop) (γ : Gm) : Prop := ∀ H' M' γ', Tr H M γ H' M' γ' →
  (∀ i, xs.length ≤ i → J.stop i H') ∧ ∀ i x, xs[i]? = some x → J.go i H' ∧ ∀ v H3, J.yld i H' v H3 → H3 = H' ∧ Rep K H' M' γ' v x
theorem ItR.tr {K : PySem.W.Frag} {J : It} {xs : List PV} {H H1 : Hp} {M M1 : Addr → Prop} {γ γ1 : Gm} (r : ItR K J xs H M γ) (t : Tr H M γ H1 M1 γ1) : ItR K J xs H1 M1 γ1 := fun H' M' γ' T => r H' M' γ' (t.trans T)
def relI (K : PySem.W.Frag) (σ : L2.St) : Hp → Gm → ST → It → List PV → Prop := fun H γ st J xs => ItR K J xs H (Mu γ σ st) ⟨γ.obj, []⟩
theorem Tr.nolock {H : Hp} {M : Addr → Prop} {γ : Gm} {H' : Hp} {M' : Addr → Prop} {γ' : Gm} (T : Tr H M γ H' M' γ') : Tr H M ⟨γ.obj, []⟩ H' M' γ' :=
  ⟨fun a o e n => T.keep a o e (n.elim .inl fun m => absurd m (by simp)), fun _ m => absurd m (by simp), T.dom, T.mu, T.gam⟩
def tI (B : Bs) (C : Ctx) (m : IT) : TI := fun σ H Qk => ∃ γ st, Sim B.K H γ σ st ∧ (evI C m st).wp (okK B σ H γ st (relI B.K σ) Qk) (excK B σ H γ st)
theorem _root_.L2.PI.mono {X : Cx} {tg e : Expr} {t t' : TI} (h : PI X tg e t) (imp : ∀ σ H R, t' σ H R → t σ H R) : PI X tg e t' := ⟨fun pins s σ H R I q => h.run pins s σ H R I (imp σ H R q)⟩
theorem it_ints {K : PySem.W.Frag} {J : It} {f : Nat → Int} {n : Nat} (h1 : ∀ i H, n ≤ i → J.stop i H) (h2 : ∀ i H, i < n → J.go i H) (h3 : ∀ i H v H3, J.yld i H v H3 → H3 = H ∧ v = .int (f i)) {H : Hp} {M : Addr → Prop} {γ : Gm} :
    ItR K J ((List.range n).map fun i => PV.int (f i)) H M γ := fun H' M' γ' T => ⟨fun i hi => h1 i H' (by simpa using hi), fun i x hx => by
  rw [List.getElem?_map] at hx
  obtain ⟨j, hj, rfl⟩ := Option.map_eq_some_iff.mp hx
  obtain ⟨hl, e⟩ := List.getElem?_eq_some_iff.mp hj
  have hl' : i < n := by simpa using hl
  have e' : j = i := by simpa using e.symm
  subst e'
  exact ⟨h2 _ _ hl', fun v H3 y => by
    obtain ⟨a, b⟩ := h3 _ _ _ _ y
    subst b
    exact ⟨a, .int _⟩⟩⟩
theorem it_r {K : PySem.W.Frag} {lo : Int} {n : Nat} {H : Hp} {M : Addr → Prop} {γ : Gm} : ItR K (Itr lo n) (ranged lo n) H M γ :=
  it_ints (f := fun i => lo + i) (fun _ _ h => h) (fun _ _ h => h) fun _ _ _ _ h => h
theorem it_c {K : PySem.W.Frag} {hi : Int} {n : Nat} {H : Hp} {M : Addr → Prop} {γ : Gm} : ItR K (Itc hi (-1) n) (ranged' hi n) H M γ :=
  it_ints (f := fun i => hi - i) (fun _ _ h => h) (fun _ _ h => h) fun i H v H3 h => by
    have h : H3 = H ∧ v = .int (hi + (i : Nat) * (-1)) := h
    exact ⟨h.1, by rw [h.2]; congr 1; omega⟩
end Q
end
section
set_option maxHeartbeats 1000000
namespace Q
open PySem PySem.Spec PyProof.Rows
open L2 hiding cutV
/-- no star ahead of it -/
def isStar : Expr → Bool
  | .Starred _ _ => true
  | _ => false
theorem star_of {a : Expr} (h : isStar a = false) (es : List Expr) (env : PySem.Env) : starEach (a :: es) env = (false, eval a env) :: starEach es env := by
  cases a <;> first
    | rfl
    | cases h
section
variable {K : PySem.W.Frag} {H0 H H' : Hp} {M : Addr → Prop} {γ γ' : Gm} {σ σ' : L2.St} {st st' : ST} {v : V} {a : Addr}
theorem rep_lst {xs : List PV} (h : Rep K H M γ (.ref a) (.lst xs)) : ∃ vs, SqL K H a vs ∧ Reps K H M γ vs xs := by
  cases h with
  | lst h n r => exact ⟨_, SqL.of h, r⟩
theorem rep_scr {ns : List Int} (h : Rep K H M γ (.ref a) (.scr ns)) : ∃ vs, SqL K H a vs ∧ Reps K H M γ vs (ns.map .int) := by
  cases h with
  | scr h =>
    rcases h with ⟨h, n⟩ | h
    · exact ⟨_, .inl h, Reps.ints _⟩
    · exact ⟨_, h.sq, Reps.ints _⟩
theorem rep_tup {xs : List PV} (h : Rep K H M γ (.ref a) (.tup xs)) : ∃ vs, SqT K H a vs ∧ Reps K H M γ vs xs := by
  cases h with
  | tup h n r => exact ⟨_, SqT.of h, r⟩
theorem it_t {xs : List PV} (r : Rep K H M γ (.ref a) (.tup xs)) : ItR K (Itt K a) xs H M γ := fun H' M' γ' T => by
  obtain ⟨vs, h, rs⟩ := rep_tup (r.tr T)
  refine ⟨fun i hi => ⟨vs, h, by rw [rs.len]; exact hi⟩, fun i x hx => ?_⟩
  obtain ⟨z, hz, rz⟩ := rs.get hx
  refine ⟨⟨vs, z, h, hz⟩, fun w H3 ⟨e, y⟩ => ⟨e, ?_⟩⟩
  have := y vs h
  rw [hz] at this
  cases this
  exact rz
theorem it_l' {p : PV} {xs : List PV} (r : Rep K H M γ (.ref a) p) (hs : ∀ H M γ, Rep K H M γ (.ref a) p → ∃ vs, SqL K H a vs ∧ Reps K H M γ vs xs) : ItR K (Itl K a) xs H M γ := fun H' M' γ' T => by
  obtain ⟨vs, h, rs⟩ := hs _ _ _ (r.tr T)
  refine ⟨fun i hi => ⟨vs, h, by rw [rs.len]; exact hi⟩, fun i x hx => ?_⟩
  obtain ⟨z, hz, rz⟩ := rs.get hx
  refine ⟨⟨vs, z, h, hz⟩, fun w H3 ⟨e, y⟩ => ⟨e, ?_⟩⟩
  have := y vs h
  rw [hz] at this
  cases this
  exact rz
theorem it_s {z : Str} : ItR K (Its z) (z.cps.toList.map fun c => PV.str ⟨#[c]⟩) H M γ := fun H' M' γ' T => by
  refine ⟨fun i hi => (by simpa using hi : z.cps.size ≤ i), fun i x hx => ?_⟩
  rw [List.getElem?_map] at hx
  obtain ⟨c, hc, rfl⟩ := Option.map_eq_some_iff.mp hx
  rw [Array.getElem?_toList] at hc
  refine ⟨(Array.getElem?_eq_some_iff.mp hc).1, fun w H3 ⟨e, d, hd, ew⟩ => ⟨e, ?_⟩⟩
  rw [hc] at hd
  cases hd
  subst ew
  exact .str _
/-- a value that is gone through -/
theorem it_any {p : PV} {xs : List PV} (r : Rep K H M γ v p) (h : itemsOf p = some xs) {R : It → Hp → Prop} (k : ∀ J, ItR K J xs H M γ → R J H) :
    (∃ a, v = .ref a ∧ (((∃ xs, SqL K H a xs) ∧ R (Itl K a) H) ∨ ((∃ xs, SqT K H a xs) ∧ R (Itt K a) H))) ∨ ∃ x, v = .str x ∧ R (Its x) H := by
  cases p <;> first
    | (cases h; done)
    | skip
  · cases h
    cases r
    exact .inr ⟨_, rfl, k _ it_s⟩
  · cases h
    have r' := r
    cases r
    obtain ⟨vs, q, _⟩ := rep_tup r'
    exact .inl ⟨_, rfl, .inr ⟨⟨vs, q⟩, k _ (it_t r')⟩⟩
  · cases h
    have r' := r
    cases r
    obtain ⟨vs, q, _⟩ := rep_lst r'
    exact .inl ⟨_, rfl, .inl ⟨⟨vs, q⟩, k _ (it_l' r' fun _ _ _ => rep_lst)⟩⟩
  · cases h
    have r' := r
    cases r
    obtain ⟨vs, q, _⟩ := rep_scr r'
    exact .inl ⟨_, rfl, .inl ⟨⟨vs, q⟩, k _ (it_l' r' fun _ _ _ => rep_scr)⟩⟩
end
section
variable {X : Cx} {B : Bs} {C : Ctx} {a b d tg : Expr} {ma mb md : E} {pos p : Pos}
theorem s_itseq (hB : B.K = X.K) (ha : PE X a (tE B C ma)) : PI X tg a (tI B C (.seq ma)) := by
  refine (pi_any ha).mono fun σ H R ⟨γ, st, S, h⟩ => ?_
  rw [evI, frzO, wp_bind] at h
  refine ⟨γ, st, S, wp_mono h (fun x st1 h v1 H1 γ1 T1 S1 R1 => ?_) fun _ _ e => e⟩
  split at h
  · rename_i q st2 hf
    obtain ⟨S2, T2, R2⟩ := frz_ok S.lk T1 S1 hf R1
    cases hi : itemsOf q with
    | none => rw [hi] at h; exact h.elim
    | some xs =>
      rw [hi] at h
      rw [← hB]
      exact it_any (γ := ⟨(γ1.at γ).obj, []⟩) (Rep.gam (γ := γ1.at γ) (γ' := ⟨(γ1.at γ).obj, []⟩) rfl R2) hi fun J hJ => h J H1 _ T2 S2 hJ
  · exact h.elim
theorem tL1 {σ : L2.St} {H : Hp} {Qk : List V → Hp → Prop} {γ : Gm} {st : ST} (S : Sim B.K H γ σ st) (h : (ev C ma st).wp (okK B σ H γ st (relE B.K σ H) fun v H' => Qk [v] H') (excK B σ H γ st)) : tL B C (.cons ma .nil) σ H Qk := by
  refine ⟨γ, st, S, ?_⟩
  simp only [evL, wp_bind]
  refine wp_mono h (fun x st1 h v1 H1 γ1 T1 S1 R1 => ?_) fun _ _ e => e
  cases R1 with
  | cons r rs => cases rs; exact h _ H1 γ1 T1 S1 r
theorem s_rng1 (hB : B.K = X.K) (hg : Gl X "range") (hm : X.mg "range" = none) (na : isStar a = false) (ha : PE X a (tE B C ma)) : PI X tg (.Call (.Name "range" p) [a] [] pos) (tI B C (.rng1 ma)) := by
  refine (pi_range1 hg hm (s_cons ha s_nil (star_of na [] X.env)) (star_of na [] X.env)).mono fun σ H R ⟨γ, st, S, h⟩ => ?_
  rw [evI, wp_bind] at h
  refine tL1 S (wp_mono h (fun x st1 h v1 H1 γ1 T1 S1 R1 => ?_) fun _ _ e => e)
  have D := ErR.dv S1 R1
  cases hx : rngO (x.get st1) with
  | none => rw [hx] at h; exact h.elim
  | some xs =>
    rw [hx] at h
    unfold rngO at hx
    split at hx
    · rename_i n q
      rw [q] at D
      cases D
      split at hx
      · rename_i hz
        cases hx
        unfold big line at hz
        exact ⟨n, rfl, by omega, by omega, h _ H1 γ1 T1 S1 it_r⟩
      · cases hx
    · cases hx
theorem dv_int {H : Hp} {M : Addr → Prop} {γ : Gm} {v : V} {dv : DV} {n : Int} (D : DvR B.K H M γ v dv) (q : dv = .v (.int n)) : v = .int n := by
  rw [q] at D
  cases D
  rfl
theorem s_rng2 (hB : B.K = X.K) (hg : Gl X "range") (hm : X.mg "range" = none) (na : isStar a = false) (nb : isStar b = false) (ha : PE X a (tE B C ma)) (hb : PE X b (tE B C mb)) : PI X tg (.Call (.Name "range" p) [a, b] [] pos) (tI B C (.rng2 ma mb)) := by
  refine (pi_range2 hg hm (s_cons ha (s_cons hb s_nil (star_of nb [] X.env)) (star_of na [b] X.env)) ((star_of na [b] X.env).trans (by rw [star_of nb [] X.env]; rfl)) (star_of nb [] X.env)).mono fun σ H R ⟨γ, st, S, h⟩ => ?_
  rw [evI, wp_bind] at h
  refine ⟨γ, st, S, ?_⟩
  simp only [evL, wp_bind]
  refine wp_mono h (fun x st1 h => ?_) fun _ _ e => e
  rw [wp_bind] at h
  refine wp_mono h (fun y st2 h vs H1 γ1 T1 S1 R1 => ?_) fun _ _ e => e
  cases R1 with
  | cons r1 rs =>
    cases rs with
    | cons r2 rs =>
      cases rs
      have D1 := ErR.dv S1 r1
      have D2 := ErR.dv S1 r2
      cases hx : rngO2 (x.get st2) (y.get st2) with
      | none => rw [hx] at h; exact h.elim
      | some xs =>
        rw [hx] at h
        unfold rngO2 at hx
        split at hx
        · rename_i i j q1 q2
          split at hx
          · rename_i hz
            cases hx
            unfold big line at hz
            exact ⟨i, j, by rw [dv_int D1 q1, dv_int D2 q2], by omega, h _ H1 γ1 T1 S1 it_r⟩
          · cases hx
        · cases hx
theorem s_rng3 (hB : B.K = X.K) (hg : Gl X "range") (hm : X.mg "range" = none) (na : isStar a = false) (nb : isStar b = false) (nd : isStar d = false) (ha : PE X a (tE B C ma)) (hb : PE X b (tE B C mb)) (hd : PE X d (tE B C md)) :
    PI X tg (.Call (.Name "range" p) [a, b, d] [] pos) (tI B C (.rng3 ma mb md)) := by
  refine (pi_range3 hg hm (s_cons ha (s_cons hb (s_cons hd s_nil (star_of nd [] X.env)) (star_of nb [d] X.env)) (star_of na [b, d] X.env)) (star_of na [b, d] X.env) (by rw [star_of nb [d] X.env, star_of nd [] X.env]; rfl)).mono fun σ H R ⟨γ, st, S, h⟩ => ?_
  rw [evI, wp_bind] at h
  refine ⟨γ, st, S, ?_⟩
  simp only [evL, wp_bind]
  refine wp_mono h (fun x st1 h => ?_) fun _ _ e => e
  rw [wp_bind] at h
  refine wp_mono h (fun y st2 h => ?_) fun _ _ e => e
  rw [wp_bind] at h
  refine wp_mono h (fun z st3 h vs H1 γ1 T1 S1 R1 => ?_) fun _ _ e => e
  cases R1 with
  | cons r1 rs =>
    cases rs with
    | cons r2 rs =>
      cases rs with
      | cons r3 rs =>
        cases rs
        have D1 := ErR.dv S1 r1
        have D2 := ErR.dv S1 r2
        have D3 := ErR.dv S1 r3
        cases hx : rngO3 (x.get st3) (y.get st3) (z.get st3) with
        | none => rw [hx] at h; exact h.elim
        | some xs =>
          rw [hx] at h
          unfold rngO3 at hx
          split at hx
          · rename_i i j k q1 q2 q3
            split at hx
            · rename_i hz
              cases hx
              unfold big line at hz
              obtain ⟨hk, hz⟩ := hz
              subst hk
              exact ⟨i, j, -1, (i - j).toNat, by rw [dv_int D1 q1, dv_int D2 q2, dv_int D3 q3], RgC.neg (by omega) (by omega) (by omega) (by omega), h _ H1 γ1 T1 S1 it_c⟩
            · cases hx
          · cases hx
theorem s_rev1 {p2 pos2 : Pos} (hB : B.K = X.K) (hg : Gl X "range") (hm : X.mg "range" = none) (hg2 : Gl X "reversed") (hm2 : X.mg "reversed" = none) (na : isStar a = false) (ha : PE X a (tE B C ma)) :
    PI X tg (.Call (.Name "reversed" p2) [.Call (.Name "range" p) [a] [] pos] [] pos2) (tI B C (.rev1 ma)) := by
  refine (pi_revR hg2 hm2 (prg_1 hg hm ha (star_of na [] X.env))).mono fun σ H R ⟨γ, st, S, h⟩ => ?_
  rw [evI, wp_bind] at h
  refine ⟨γ, st, S, wp_mono h (fun x st1 h v1 H1 γ1 T1 S1 R1 => ?_) fun _ _ e => e⟩
  have D := ErR.dv S1 R1
  cases hx : revO (x.get st1) with
  | none => rw [hx] at h; exact h.elim
  | some xs =>
    rw [hx] at h
    unfold revO at hx
    split at hx
    · rename_i n q
      split at hx
      · rename_i hz
        cases hx
        unfold big line at hz
        refine ⟨n, dv_int D q, by decide, by decide, by omega, by omega, h _ H1 γ1 T1 S1 ?_⟩
        have e1 : (n - 0).toNat = n.toNat := by rw [Int.sub_zero]
        rw [e1, Int.zero_add]
        exact it_c
      · cases hx
    · cases hx
end
end Q
end
section
set_option maxHeartbeats 1000000
namespace Q
open PySem PySem.Spec PyProof.Rows
open L2 hiding cutV
section
variable {K : PySem.W.Frag} {H0 H H' : Hp} {M0 : Addr → Prop} {γ0 γ γ' : Gm} {σ σ' : L2.St} {st st' : ST} {v : V}
/-- the block's slots forgotten, in another state of these -/
theorem Sim.back (S : Sim K H γ σ' st) {ws : List Nat} (hl : σ.length = σ'.length) (hw : L2.wipe σ ws = L2.wipe σ' ws) :
    Sim K H γ σ (wipeS st ws) ∧ Tr H (Mu γ σ' st) γ H (Mu γ σ (wipeS st ws)) γ := by
  obtain ⟨S1, T1⟩ := S.wipe ws
  obtain ⟨S2, e⟩ := S1.wiped (σ' := σ) hl hw
  exact ⟨S2, by rw [e]; exact T1⟩
/-- a list that is being made is written -/
theorem Sim.poke (S : Sim K H γ σ st) {D : Addr} {o : HO} (hD : D ∈ γ.lock) : Sim K (upd H D o) γ σ st ∧ Tr H (Mu γ σ st) ⟨γ.obj, []⟩ (upd H D o) (Mu γ σ st) γ := by
  have mD : Mu γ σ st D := .inl (.inr hD)
  have T : Tr H (Mu γ σ st) ⟨γ.obj, []⟩ (upd H D o) (Mu γ σ st) γ := by
    refine ⟨fun a u e n => ?_, fun _ m => absurd m (by simp), fun a e => ?_, fun a m => .inl m, ⟨[], by simp⟩⟩
    · rcases n with n | n
      · rw [upd_ne (fun z => n (by rw [z]; exact mD))]
        exact e
      · cases n
    · by_cases z : a = D
      · subst z
        rw [upd_same] at e
        cases e
      · rw [upd_ne z] at e
        exact e
  refine ⟨⟨S.len, fun i s e => ?_, S.inj, fun a m => ?_, S.sep, S.g0⟩, T⟩
  · obtain ⟨v, hv, r⟩ := S.sv i s e
    refine ⟨v, hv, ?_⟩
    cases s with
    | v p => exact Rep.tr T (Rep.gam (γ := γ) (γ' := ⟨γ.obj, []⟩) rfl r)
    | own d =>
      obtain ⟨a, e1, r⟩ := r
      subst e1
      refine ⟨a, rfl, (OwnR.gam (γ := γ) (γ' := ⟨γ.obj, []⟩) rfl r).tr' T fun u q => ?_⟩
      rw [upd_ne fun z => ?_]
      · exact q
      · subst z
        exact S.sep i d _ e hv (.inr hD)
  · by_cases z : a = D
    · subst z
      exact ⟨_, upd_same⟩
    · obtain ⟨u, e⟩ := S.gl a m
      exact ⟨u, by rw [upd_ne z]; exact e⟩
theorem Tr.poke {M M1 : Addr → Prop} {H1 : Hp} {γ1 : Gm} (T : Tr H1 M1 γ1 H M γ) {D : Addr} {o : HO} (h : H1 D = none) : Tr H1 M1 γ1 (upd H D o) M γ := by
  refine ⟨fun a u e n => ?_, T.lock, fun a e => ?_, T.mu, T.gam⟩
  · rw [upd_ne fun z => by rw [z, h] at e; cases e]
    exact T.keep a u e n
  · by_cases z : a = D
    · subst z
      rw [upd_same] at e
      cases e
    · rw [upd_ne z] at e
      exact T.dom a e
end
theorem noExc_wp {α : Type} (o : Out α) (q : α → ST → Prop) (e : XV → ST → Prop) : (noExc o).wp q e ↔ o.wp q fun _ _ => False := by
  cases o <;> exact Iff.rfl
theorem wp_ex {α : Type} {o : Out α} {q : α → ST → Prop} (h : o.wp q fun _ _ => False) : ∃ a st, q a st := by
  cases o with
  | ok a st => exact ⟨a, st, h⟩
  | exc x st => exact h.elim
  | bad => exact h.elim
theorem lcF_wp {tg : Tg} {ws : List Nat} {t : ST → Out Bool} {k : ST → Out (List PV)} {x : PV} {st : ST} {q : List PV → ST → Prop} {e : XV → ST → Prop} (h : (lcF tg ws t k x st).wp q e) :
    ∃ st', putTo tg x (wipeS st ws) = some st' ∧ (t st').wp (fun b st => if b = true then (k st).wp (fun ps st => q ps (wipeS st ws)) e else q [] (wipeS st ws)) e := by
  unfold lcF at h
  split at h
  · rename_i st' hp
    refine ⟨st', hp, ?_⟩
    rw [wp_bind] at h
    refine wp_mono h (fun b st h => ?_) fun _ _ e => e
    cases b with
    | true =>
      simp only [if_true, wp_bind] at h ⊢
      exact h
    | false => exact h
  · exact h.elim
/-- no wish of an exception -/
def Bs.off (B : Bs) : Bs := { B with W := fun _ _ _ _ => False }
section
variable {B : Bs} {C : Ctx} {ws : List Nat} {tg : Tg} {it : IT} {cond : T} {elt : E}
/-- the comprehension's invariant -/
def LcW (K : PySem.W.Frag) (σ : L2.St) (H1 : Hp) (M1 : Addr → Prop) (γ1 : Gm) (Hb : Hp) (Mb : Addr → Prop) (γb : Gm) (D : Addr) (F : PV → ST → Out (List PV)) (xs : List PV) (Kt : List PV → ST → Prop) (i m : Nat) (H : Hp) : Prop :=
  ∃ acc vs st γ, m = xs.length - i ∧ i ≤ xs.length ∧ Sim K H γ σ st ∧ Tr H1 M1 γ1 H (Mu γ σ st) γ ∧ Tr Hb Mb γb H (Mu γ σ st) γ ∧ D ∈ γ.lock ∧ H D = some (.lst vs) ∧ Reps K H (Mu γ σ st) γ vs acc ∧
    (mapO F (xs.drop i) st).wp (fun r st' => Kt (acc ++ r) st') fun _ _ => False
theorem mapO_cons {F : PV → ST → Out (List PV)} {xs : List PV} {i : Nat} {x : PV} {st : ST} {q : List PV → ST → Prop} {e : XV → ST → Prop} (hx : xs[i]? = some x) (h : (mapO F (xs.drop i) st).wp q e) :
    (F x st).wp (fun a st => (mapO F (xs.drop (i + 1)) st).wp (fun b st => q (a ++ b) st) e) e := by
  obtain ⟨hl, e'⟩ := List.getElem?_eq_some_iff.mp hx
  rw [List.drop_eq_getElem_cons hl, e', mapO, wp_bind] at h
  refine wp_mono h (fun a st h => ?_) fun _ _ e => e
  rw [wp_bind] at h
  exact h
theorem Tr.poke' {M M1 : Addr → Prop} {H1 H : Hp} {γ γ1 : Gm} (T : Tr H1 M1 ⟨γ1.obj, []⟩ H M γ) {D : Addr} {o : HO} (hD : H1 D = none ∨ M1 D) : Tr H1 M1 ⟨γ1.obj, []⟩ (upd H D o) M γ := by
  refine ⟨fun a u e n => ?_, T.lock, fun a e => ?_, T.mu, T.gam⟩
  · rw [upd_ne fun z => ?_]
    · exact T.keep a u e n
    · subst z
      rcases hD with h | h
      · rw [h] at e; cases e
      · rcases n with n | n
        · exact n h
        · cases n
  · by_cases z : a = D
    · subst z
      rw [upd_same] at e
      cases e
    · rw [upd_ne z] at e
      exact T.dom a e
theorem Tr.poke2 {M M1 : Addr → Prop} {H1 H : Hp} {γ γ1 : Gm} (T : Tr H1 M1 γ1 H M γ) {D : Addr} {o : HO} (hD : H1 D = none ∨ M1 D) (hl : D ∉ γ1.lock) : Tr H1 M1 γ1 (upd H D o) M γ := by
  refine ⟨fun a u e n => ?_, T.lock, fun a e => ?_, T.mu, T.gam⟩
  · rw [upd_ne fun z => ?_]
    · exact T.keep a u e n
    · subst z
      rcases hD with h | h
      · rw [h] at e; cases e
      · rcases n with n | n
        · exact n h
        · exact hl n
  · by_cases z : a = D
    · subst z
      rw [upd_same] at e
      cases e
    · rw [upd_ne z] at e
      exact T.dom a e
/-- a turn -/
theorem lc_turn {K : PySem.W.Frag} (hK : B.K = K) {σ : L2.St} {H1 Hb : Hp} {M1 Mb : Addr → Prop} {γ1 γb : Gm} {D : Addr} {xs : List PV} {Kt : List PV → ST → Prop} {i m : Nat} {H : Hp} {J : It} (htg : ∀ i ∈ tg.slots, i ∈ ws)
    (hD : H1 D = none) (hDb : Hb D = none ∨ Mb D) (hDl : D ∉ γb.lock) (hz : ∀ r st, Kt r st → r.length ≤ line) (R1 : ItR K J xs Hb Mb γb) (hlt : i < xs.length)
    (w : LcW K σ H1 M1 γ1 Hb Mb γb D (lcF tg ws (fun st => tst C cond st) (fun st => frzO (ev C elt st) fun p st => .ok [p] st)) xs Kt i m H) :
    J.go i H ∧ ∀ v H', J.yld i H v H' → gTg K tg v (L2.wipe σ ws) H' fun σ2 H2 => L2.wipe σ2 ws = L2.wipe σ ws ∧ tT B.off C cond σ2 H2 fun b H3 =>
      if b = true then tE B.off C elt σ2 H3 fun y H4 => ∃ acc, H4 D = some (.lst acc) ∧ acc.length < sizeLine ∧ LcW K σ H1 M1 γ1 Hb Mb γb D (lcF tg ws (fun st => tst C cond st) (fun st => frzO (ev C elt st) fun p st => .ok [p] st)) xs Kt (i + 1) (xs.length - (i + 1)) (upd H4 D (.lst (acc ++ [y])))
      else LcW K σ H1 M1 γ1 Hb Mb γb D (lcF tg ws (fun st => tst C cond st) (fun st => frzO (ev C elt st) fun p st => .ok [p] st)) xs Kt (i + 1) (xs.length - (i + 1)) H3 := by
  subst hK
  obtain ⟨acc, vs, st2, γ2, rfl, hi, S2, T2, Tb, hl, hd, rs, w⟩ := w
  have hx : xs[i]? = some xs[i] := by simp [hlt]
  generalize xs[i] = x at hx
  obtain ⟨_, R⟩ := R1 H _ γ2 Tb
  obtain ⟨go, R⟩ := R i x hx
  have w := mapO_cons hx w
  refine ⟨go, fun v H' y => ?_⟩
  obtain ⟨rfl, rv⟩ := R v H' y
  obtain ⟨S3, T3⟩ := S2.back (σ := L2.wipe σ ws) (ws := ws) (wipe_length _ _) (wipe_wipe _ _)
  obtain ⟨st3, hput, w⟩ := lcF_wp w
  refine putTo_ok htg S3 (rv.tr T3) hput fun σ' el ew S4 T4 => ?_
  rw [wipe_wipe] at ew
  rw [wipe_length] at el
  refine ⟨ew, γ2, st3, S4, ?_⟩
  refine wp_mono w (fun b st4 w k H5 γ5 T5 S5 R5 => ?_) fun _ _ e => e.elim
  have R5 : k = b := R5
  subst R5
  have T25 := T3.trans (T4.trans T5)
  cases k with
  | false =>
    refine L2.iteF ?_
    obtain ⟨S6, T6⟩ := S5.back (σ := σ) (ws := ws) el.symm ew.symm
    exact ⟨acc, vs, _, γ5, rfl, hlt, S6, T2.trans (T25.trans T6), Tb.trans (T25.trans T6), T25.lock _ hl, T25.keep _ _ hd (.inr hl), Reps.tr (T25.trans T6) rs, w⟩
  | true =>
    refine L2.iteT ?_
    simp only [if_true] at w
    rw [frzO, wp_bind] at w
    refine ⟨γ5, st4, S5, wp_mono w (fun er st5 w y H6 γ6 T6 S6 R6 => ?_) fun _ _ e => e.elim⟩
    split at w
    · rename_i p st6 hf
      rw [wp_ok] at w
      obtain ⟨S7, T7, R7⟩ := frz_ok S5.lk T6 S6 hf R6
      have T27 := T25.trans T7
      have hl7 := T27.lock _ hl
      refine ⟨vs, T27.keep _ _ hd (.inr hl), ?_, ?_⟩
      · obtain ⟨r, st9, z⟩ := wp_ex w
        have z := hz _ _ z
        rw [rs.len, sizeL]
        simp only [List.length_append, List.length_cons, List.length_nil] at z
        omega
      · obtain ⟨S8, T8⟩ := S7.poke (o := .lst (vs ++ [y])) hl7
        have S9 := (S8.back (σ := σ) (ws := ws) el.symm ew.symm).1
        have T9 := (S7.back (σ := σ) (ws := ws) el.symm ew.symm).2
        have T89 := (S8.back (σ := σ) (ws := ws) el.symm ew.symm).2
        refine ⟨acc ++ [p], _, _, _, rfl, hlt, S9, (T2.trans (T27.trans T9)).poke hD, (Tb.trans (T27.trans T9)).poke2 hDb hDl, hl7, upd_same, ?_, ?_⟩
        · exact Reps.tr (T8.trans T89) (Reps.gam (γ := γ6.at γ5) (γ' := ⟨(γ6.at γ5).obj, []⟩) rfl (Reps.app (Reps.tr T27 rs) (.cons R7 .nil)))
        · refine wp_mono w (fun r st9 z => ?_) fun _ _ e => e
          rw [List.append_assoc]
          exact z
    · exact w.elim
theorem lc_imp (htg : ∀ i ∈ tg.slots, i ∈ ws) {σ : L2.St} {H : Hp} {Qk : VK} (h : tE B C (.lc ws tg it cond elt) σ H Qk) : tLc (tI B C it) (gTg B.K tg) (tT B.off C cond) (tE B.off C elt) ws σ H Qk := by
  obtain ⟨γ, st, S, h⟩ := h
  rw [ev, wp_bind] at h
  refine ⟨γ, st, S, wp_mono h (fun xs st1 h J H1 γ1 T1 S1 R1 D hD => ?_) fun _ _ e => e⟩
  rw [wp_bind, noExc_wp] at h
  generalize hKt : (fun (ps : List PV) (st : ST) => (if ps.length ≤ line then Out.ok (ER.own (LD.lst ps)) st else Out.bad).wp (okK B σ H γ _ (relE B.K σ H) Qk) (excK B σ H γ _)) = Kt at h
  have S0 := S1.hold (upd_ext (o := .lst []) hD) hD ⟨_, upd_same⟩
  refine ⟨LcW B.K σ H1 (Mu γ1 σ st1) γ1 H1 (Mu γ1 σ st1) ⟨γ1.obj, []⟩ D _ xs Kt, ⟨xs.length, [], [], st1, γ1.add D, rfl, Nat.zero_le _, S0.1, S0.2, S0.2.nolock, .head _, upd_same, .nil, h⟩, ?_⟩
  intro i m H2 w
  by_cases hlt : i < xs.length
  · obtain ⟨go, k⟩ := lc_turn rfl htg hD (.inl hD) (by simp) (fun r st z => by
      rw [← hKt] at z
      split at z
      · assumption
      · exact z.elim) R1 hlt w
    exact .inr ⟨go, _, fun H' n => ⟨_, (by obtain ⟨_, _, _, _, e, _⟩ := w; omega), n⟩, k⟩
  · obtain ⟨acc, vs, st2, γ2, rfl, hi, S2, T2, Tb, hl, hd, rs, w⟩ := w
    have e : i = xs.length := by omega
    subst e
    rw [List.drop_length] at w
    refine .inl ⟨(R1 H2 _ γ2 Tb).1 _ (Nat.le_refl _), ?_⟩
    have w : Kt (acc ++ []) st2 := w
    rw [List.append_nil, ← hKt] at w
    split at w
    · exact w _ H2 γ2 (T1.trans T2) S2 ⟨D, rfl, T1.dom _ hD, hl, vs, hd, rs⟩
    · exact w.elim
theorem lc2_imp {ws1 : List Nat} {tg1 : Tg} {it1 : IT} {cond1 : T} (htg : ∀ i ∈ tg.slots, i ∈ ws) (htg1 : ∀ i ∈ tg1.slots, i ∈ ws1) {σ : L2.St} {H : Hp} {Qk : VK} (h : tE B C (.lc2 ws ws1 tg it cond tg1 it1 cond1 elt) σ H Qk) :
    tLc2 (tI B C it) (gTg B.K tg) (tT B.off C cond) (tI B.off C it1) (gTg B.K tg1) (tT B.off C cond1) (tE B.off C elt) ws ws1 σ H Qk := by
  obtain ⟨γ, st, S, h⟩ := h
  rw [ev, wp_bind] at h
  refine ⟨γ, st, S, wp_mono h (fun xs st1 h J H1 γ1 T1 S1 R1 D hD => ?_) fun _ _ e => e⟩
  rw [wp_bind, noExc_wp] at h
  generalize hKt : (fun (ps : List PV) (st : ST) => (if ps.length ≤ line then Out.ok (ER.own (LD.lst ps)) st else Out.bad).wp (okK B σ H γ _ (relE B.K σ H) Qk) (excK B σ H γ _)) = Kt at h
  have hz : ∀ r st, Kt r st → r.length ≤ line := fun r st z => by
    rw [← hKt] at z
    split at z
    · assumption
    · exact z.elim
  have S0 := S1.hold (upd_ext (o := .lst []) hD) hD ⟨_, upd_same⟩
  generalize hF : (lcF tg ws (fun st => tst C cond st) fun st => (evI C it1 st).bind fun ys st => mapO (lcF tg1 ws1 (fun st => tst C cond1 st) fun st => frzO (ev C elt st) fun p st => Out.ok [p] st) ys st) = F at h
  refine ⟨LcW B.K σ H1 (Mu γ1 σ st1) γ1 H1 (Mu γ1 σ st1) ⟨γ1.obj, []⟩ D F xs Kt, ⟨xs.length, [], [], st1, γ1.add D, rfl, Nat.zero_le _, S0.1, S0.2, S0.2.nolock, .head _, upd_same, .nil, h⟩, ?_⟩
  rintro i m H2 ⟨acc, vs, st2, γ2, rfl, hi, S2, T2, Tb, hl, hd, rs, w⟩
  by_cases hlt : i < xs.length
  · have hx : xs[i]? = some xs[i] := by simp [hlt]
    generalize xs[i] = x at hx
    obtain ⟨_, R⟩ := R1 H2 _ γ2 Tb
    obtain ⟨go, R⟩ := R i x hx
    have w := mapO_cons hx w
    refine .inr ⟨go, LcW B.K σ H1 (Mu γ1 σ st1) γ1 H1 (Mu γ1 σ st1) ⟨γ1.obj, []⟩ D F xs Kt (i + 1) (xs.length - (i + 1)), fun H' n => ⟨_, by omega, n⟩, fun v H' y => ?_⟩
    obtain ⟨rfl, rv⟩ := R v H' y
    obtain ⟨S3, T3⟩ := S2.back (σ := L2.wipe σ ws) (ws := ws) (wipe_length _ _) (wipe_wipe _ _)
    rw [← hF] at w
    obtain ⟨st3, hput, w⟩ := lcF_wp w
    rw [hF] at w
    refine putTo_ok htg S3 (rv.tr T3) hput fun σ' el ew S4 T4 => ?_
    rw [wipe_wipe] at ew
    rw [wipe_length] at el
    refine ⟨ew, γ2, st3, S4, ?_⟩
    refine wp_mono w (fun b st4 w k H5 γ5 T5 S5 R5 => ?_) fun _ _ e => e.elim
    have R5 : k = b := R5
    subst R5
    have T25 := T3.trans (T4.trans T5)
    cases k with
    | false =>
      refine L2.iteF ?_
      obtain ⟨S6, T6⟩ := S5.back (σ := σ) (ws := ws) el.symm ew.symm
      exact ⟨acc, vs, _, γ5, rfl, hlt, S6, T2.trans (T25.trans T6), Tb.trans (T25.trans T6), T25.lock _ hl, T25.keep _ _ hd (.inr hl), Reps.tr (T25.trans T6) rs, w⟩
    | true =>
      refine L2.iteT ?_
      simp only [if_true] at w
      rw [wp_bind] at w
      refine ⟨γ5, st4, S5, wp_mono w (fun ys st5 w J1 H6 γ6 T6 S6 R6 => ?_) fun _ _ e => e.elim⟩
      have T26 := T25.trans T6
      generalize hKt1 : (fun (r : List PV) (st' : ST) => (mapO F (xs.drop (i + 1)) (wipeS st' ws)).wp (fun b st => Kt (r ++ b) st) fun _ _ => False) = Kt1
      have hz1 : ∀ r st, Kt1 r st → r.length ≤ line := fun r st z => by
        rw [← hKt1] at z
        obtain ⟨b, _, z⟩ := wp_ex z
        have := hz _ _ z
        rw [List.length_append] at this
        omega
      have m6 : Mu γ6 σ' st5 D := .inl (.inr (T26.lock _ hl))
      refine ⟨LcW B.K σ' H1 (Mu γ1 σ st1) γ1 H6 (Mu γ6 σ' st5) ⟨γ6.obj, []⟩ D (lcF tg1 ws1 (fun st => tst C cond1 st) (fun st => frzO (ev C elt st) fun p st => Out.ok [p] st)) ys Kt1, ⟨ys.length, acc, vs, st5, γ6, rfl, Nat.zero_le _, S6, T2.trans T26, Tr.refl.nolock, T26.lock _ hl, T26.keep _ _ hd (.inr hl), Reps.tr T26 rs, ?_⟩, ?_⟩
      · refine wp_mono w (fun r st9 z => ?_) fun _ _ e => e
        rw [← hKt1]
        refine wp_mono z (fun b st z => ?_) fun _ _ e => e
        rw [List.append_assoc]
        exact z
      · intro j k H7 w
        by_cases hlt1 : j < ys.length
        · obtain ⟨go, q⟩ := lc_turn (B := B) rfl htg1 hD (.inr m6) (by simp) hz1 R6 hlt1 w
          exact .inr ⟨go, _, fun H' n => ⟨_, (by obtain ⟨_, _, _, _, e, _⟩ := w; omega), n⟩, q⟩
        · obtain ⟨acc', vs', st7, γ7, rfl, hi7, S7, T7, Tb7, hl7, hd7, rs7, w⟩ := w
          have e : j = ys.length := by omega
          subst e
          rw [List.drop_length] at w
          refine .inl ⟨(R6 H7 _ γ7 Tb7).1 _ (Nat.le_refl _), ?_⟩
          have w : Kt1 (acc' ++ []) st7 := w
          rw [List.append_nil, ← hKt1] at w
          obtain ⟨S8, T8⟩ := S7.back (σ := σ) (ws := ws) el.symm ew.symm
          exact ⟨acc', vs', _, γ7, rfl, hlt, S8, T7.trans T8, (T7.trans T8).nolock, hl7, hd7, Reps.tr T8 rs7, w⟩
  · have e : i = xs.length := by omega
    subst e
    rw [List.drop_length] at w
    refine .inl ⟨(R1 H2 _ γ2 Tb).1 _ (Nat.le_refl _), ?_⟩
    have w : Kt (acc ++ []) st2 := w
    rw [List.append_nil, ← hKt] at w
    split at w
    · exact w _ H2 γ2 (T1.trans T2) S2 ⟨D, rfl, T1.dom _ hD, hl, vs, hd, rs⟩
    · exact w.elim
end
end Q
end
section
set_option maxHeartbeats 1000000
namespace Q
open PySem PySem.Spec PyProof.Rows
open L2 hiding cutV
/-! ### places of arguments -/
theorem env_map (as : List SV) (g : List GI) (k : Nat) : envAt ⟨as.map some, g⟩ k = as[k]? := by
  unfold envAt
  dsimp only
  rw [List.getElem?_map]
  cases as[k]? <;> rfl
theorem val_map {vs : List V} {k : Nat} {v : V} : (vs.map some)[k]? = some (some v) ↔ vs[k]? = some v := by
  rw [List.getElem?_map]
  cases vs[k]? <;> simp
theorem svAll_at {st : ST} : ∀ {es : List ER} {as : List SV}, svAll st es = some as → as.length = es.length ∧ ∀ (k : Nat) (s : SV), as[k]? = some s → ∃ e, es[k]? = some e ∧ e.sv st = some s
  | [], as, h => by
    cases h
    exact ⟨rfl, fun k s e => by simp at e⟩
  | e :: r, as, h => by
    simp only [svAll] at h
    split at h
    · rename_i a b h1 h2
      cases h
      obtain ⟨l, q⟩ := svAll_at (es := r) h2
      refine ⟨by rw [List.length_cons, List.length_cons, l], fun k s z => ?_⟩
      cases k with
      | zero =>
        simp at z
        subst z
        exact ⟨e, rfl, h1⟩
      | succ k =>
        obtain ⟨e', h3, h4⟩ := q k s (by simpa using z)
        exact ⟨e', by simpa using h3, h4⟩
    · cases h
theorem mem_slots {j : Nat} : ∀ {es : List ER}, j ∈ slotsOf es ↔ ∃ k : Nat, es[k]? = some (ER.slot j)
  | [] => by simp [slotsOf]
  | .slot i :: r => by
    rw [slotsOf, List.mem_cons, mem_slots (es := r)]
    constructor
    · rintro (rfl | ⟨k, h⟩)
      · exact ⟨0, rfl⟩
      · exact ⟨k + 1, by simpa using h⟩
    · rintro ⟨k, h⟩
      cases k with
      | zero => simp at h; exact .inl h.symm
      | succ k => exact .inr ⟨k, by simpa using h⟩
  | .v p :: r => by
    rw [slotsOf, mem_slots (es := r)]
    · constructor
      · rintro ⟨k, h⟩
        exact ⟨k + 1, by simpa using h⟩
      · rintro ⟨k, h⟩
        cases k with
        | zero => simp at h
        | succ k => exact ⟨k, by simpa using h⟩
    · intro i h; cases h
  | .own p :: r => by
    rw [slotsOf, mem_slots (es := r)]
    · constructor
      · rintro ⟨k, h⟩
        exact ⟨k + 1, by simpa using h⟩
      · rintro ⟨k, h⟩
        cases k with
        | zero => simp at h
        | succ k => exact ⟨k, by simpa using h⟩
    · intro i h; cases h
theorem back_cons_v {p : PV} {r : List ER} {a : SV} {as : List SV} {st : ST} : back (.v p :: r) (a :: as) st = back r as st := by
  rw [back]
  intro i h; cases h
theorem back_cons_o {d : LD} {r : List ER} {a : SV} {as : List SV} {st : ST} : back (.own d :: r) (a :: as) st = back r as st := by
  rw [back]
  intro i h; cases h
theorem slots_v {p : PV} {r : List ER} : slotsOf (.v p :: r) = slotsOf r := by
  rw [slotsOf]
  intro i h; cases h
theorem slots_o {d : LD} {r : List ER} : slotsOf (.own d :: r) = slotsOf r := by
  rw [slotsOf]
  intro i h; cases h
theorem back_out {j : Nat} : ∀ {es : List ER} {as : List SV} {st : ST}, j ∉ slotsOf es → envAt (back es as st) j = envAt st j
  | [], as, st, h => by cases as <;> rfl
  | e :: r, [], st, h => by cases e <;> rfl
  | .slot i :: r, a :: as, st, h => by
    rw [slotsOf, List.mem_cons] at h
    rw [back, back_out (es := r) (fun z => h (.inr z)), envAt_other fun z => h (.inl z)]
  | .v p :: r, a :: as, st, h => by
    rw [slots_v] at h
    rw [back_cons_v, back_out (es := r) h]
  | .own p :: r, a :: as, st, h => by
    rw [slots_o] at h
    rw [back_cons_o, back_out (es := r) h]
theorem back_len : ∀ {es : List ER} {as : List SV} {st : ST}, (back es as st).env.length = st.env.length ∧ (back es as st).g = st.g
  | [], as, st => by cases as <;> exact ⟨rfl, rfl⟩
  | e :: r, [], st => by cases e <;> exact ⟨rfl, rfl⟩
  | .slot i :: r, a :: as, st => by
    rw [back]
    exact ⟨back_len.1.trans put_len, back_len.2.trans put_g⟩
  | .v p :: r, a :: as, st => by
    rw [back_cons_v]
    exact back_len
  | .own p :: r, a :: as, st => by
    rw [back_cons_o]
    exact back_len
theorem back_at {j : Nat} : ∀ {es : List ER} {as : List SV} {st : ST} {k : Nat}, (slotsOf es).Nodup → as.length = es.length → es[k]? = some (ER.slot j) → j < st.env.length → envAt (back es as st) j = as[k]?
  | [], as, st, k, nd, hl, h, hj => by simp at h
  | e :: r, [], st, k, nd, hl, h, hj => by simp at hl
  | .slot i :: r, a :: as, st, k, nd, hl, h, hj => by
    rw [slotsOf, List.nodup_cons] at nd
    rw [back]
    cases k with
    | zero =>
      simp at h
      subst h
      rw [back_out nd.1, envAt_same hj]
      rfl
    | succ k =>
      rw [back_at (k := k) nd.2 (by simpa using hl) (by simpa using h) (by rw [put_len]; exact hj)]
      rfl
  | .v p :: r, a :: as, st, k, nd, hl, h, hj => by
    rw [slots_v] at nd
    rw [back_cons_v]
    cases k with
    | zero => simp at h
    | succ k =>
      rw [back_at (k := k) nd (by simpa using hl) (by simpa using h) hj]
      rfl
  | .own p :: r, a :: as, st, k, nd, hl, h, hj => by
    rw [slots_o] at nd
    rw [back_cons_o]
    cases k with
    | zero => simp at h
    | succ k =>
      rw [back_at (k := k) nd (by simpa using hl) (by simpa using h) hj]
      rfl
theorem slots_one {j k k' : Nat} : ∀ {es : List ER}, (slotsOf es).Nodup → es[k]? = some (ER.slot j) → es[k']? = some (ER.slot j) → k = k' := fun {es} nd h h' => by
  have hl : (List.replicate es.length (SV.v .non)).length = es.length := by simp
  by_cases e : k = k'
  · exact e
  · exfalso
    -- two different fillings would meet
    have hk := (List.getElem?_eq_some_iff.mp h).1
    have hk' := (List.getElem?_eq_some_iff.mp h').1
    let as : List SV := (List.range es.length).map fun (i : Nat) => .v (.int (i : Int))
    have la : as.length = es.length := by simp [as]
    let st : ST := ⟨List.replicate (j + 1) none, []⟩
    have h1 := back_at (st := st) nd la h (by simp [st])
    have h2 := back_at (st := st) nd la h' (by simp [st])
    rw [h1] at h2
    simp [as, hk, hk'] at h2
    omega
/-! ### the addresses that the callee is to leave -/
theorem some_list {P : Addr → Prop} (l : List Addr) (h : ∀ a, P a → a ∈ l) : ∃ L : List Addr, ∀ a, a ∈ L ↔ P a := by
  classical
  exact ⟨l.filter fun a => decide (P a), fun a => by simp; exact fun p => h a p⟩
theorem mu_list {K : PySem.W.Frag} {H : Hp} {γ : Gm} {σ : L2.St} {st : ST} (S : Sim K H γ σ st) : ∃ l : List Addr, ∀ a, Mu γ σ st a → a ∈ l := by
  refine ⟨γ.lock ++ (σ.filterMap fun o => o.bind fun v => match v with | .ref a => some a | _ => none), fun a m => ?_⟩
  rw [List.mem_append, List.mem_filterMap]
  rcases m with (m | m) | ⟨i, d, _, q⟩
  · rw [S.g0.1] at m; cases m
  · exact .inl m
  · exact .inr ⟨some (.ref a), List.mem_of_getElem? q, rfl⟩
end Q
end
section
set_option maxHeartbeats 1000000
namespace Q
open PySem PySem.Spec PyProof.Rows
open L2 hiding cutV
section
variable {K : PySem.W.Frag} {Hs H : Hp} {Ms : Addr → Prop} {γs γ : Gm} {σ : L2.St} {st : ST} {vs : List V} {es : List ER} {as : List SV}
/-- the callee's own world -/
abbrev wor (as : List SV) (g : List GI) : ST := ⟨as.map some, g⟩
/-- what comes back from the callee, seen by the caller -/
structure Home (K : PySem.W.Frag) (Hs : Hp) (Ms : Addr → Prop) (γs : Gm) (H : Hp) (γ : Gm) (σ : L2.St) (st : ST) (vs : List V) (es : List ER) (as : List SV) (γc : Gm) : Prop where
  out : ∀ (as' : List SV) (g' : List GI) (H' : Hp) (γ' : Gm) (lk : List Addr), Tr H (Mu γc (vs.map some) (wor as st.g)) γc H' (Mu γ' (vs.map some) (wor as' g')) γ' → Sim K H' γ' (vs.map some) (wor as' g') →
    (∀ a, a ∈ γs.lock → a ∈ lk) → (∀ a, a ∈ lk → a ∈ γs.lock ∨ (a ∈ γ'.lock ∧ H a = none)) →
    Sim K H' ⟨γ'.obj, lk⟩ σ (back es as' { st with g := g' }) ∧ Tr Hs Ms γs H' (Mu ⟨γ'.obj, lk⟩ σ (back es as' { st with g := g' })) ⟨γ'.obj, lk⟩ ∧
      ∀ a, Mu ⟨γ'.obj, lk⟩ σ (back es as' { st with g := g' }) a → Mu γ' (vs.map some) (wor as' g') a
theorem call_in (Ls : ∀ a, a ∈ γs.lock → Hs a ≠ none) (T : Tr Hs Ms γs H (Mu γ σ st) γ) (S : Sim K H γ σ st) (R : ErRs K Hs H γ σ st vs es) (ha : svAll st es = some as) (nd : (slotsOf es).Nodup) :
    ∃ γc, Sim K H γc (vs.map some) (wor as st.g) ∧ Home K Hs Ms γs H γ σ st vs es as γc := by
  obtain ⟨la, at_⟩ := svAll_at ha
  have lv := R.len
  -- an argument that is a list or a dict of its own: where it comes from
  have own : ∀ (k : Nat) (d : LD), as[k]? = some (.own d) → (∃ a, es[k]? = some (.own d) ∧ vs[k]? = some (.ref a) ∧ Hs a = none ∧ a ∈ γ.lock ∧ OwnR K H (Mu γ σ st) γ a d) ∨
      ∃ (i : Nat) (a : Addr), es[k]? = some (.slot i) ∧ envAt st i = some (.own d) ∧ vs[k]? = some (.ref a) ∧ σ[i]? = some (some (.ref a)) ∧ OwnR K H (Mu γ σ st) γ a d := fun k d e => by
    obtain ⟨er, h1, h2⟩ := at_ k _ e
    cases er with
    | v p => cases h2
    | own d' =>
      cases h2
      obtain ⟨a, q1, q2, q3, q4⟩ := R.own h1
      exact .inl ⟨a, h1, q1, q2, q3, q4⟩
    | slot i =>
      have h2 : envAt st i = some (.own d) := h2
      obtain ⟨v, hv, r⟩ := R.get h1
      have r : σ[i]? = some (some v) := r
      obtain ⟨u, hu, a, rfl, o⟩ := S.sv i _ h2
      rw [r] at hu
      cases hu
      exact .inr ⟨i, a, h1, h2, hv, r, o⟩
  let Pas : Addr → Prop := fun a => ∃ (k : Nat) (d : LD), as[k]? = some (.own d) ∧ vs[k]? = some (.ref a)
  have pasMu : ∀ a, Pas a → Mu γ σ st a := fun a ⟨k, d, e, q⟩ => by
    rcases own k d e with ⟨b, _, q1, _, q3, _⟩ | ⟨i, b, _, q2, q3, q4, _⟩
    · rw [q] at q1; cases q1; exact .inl (.inr q3)
    · rw [q] at q3; cases q3; exact .inr ⟨i, d, q2, q4⟩
  obtain ⟨l, hl⟩ := mu_list S
  obtain ⟨L, hL⟩ := some_list (P := fun a => Mu γ σ st a ∧ ¬ Pas a) l fun a h => hl a h.1
  have muc : ∀ a, Mu ⟨γ.obj, L⟩ (vs.map some) (wor as st.g) a ↔ Mu γ σ st a := fun a => by
    constructor
    · rintro ((m | m) | ⟨k, d, e, q⟩)
      · exact .inl (.inl m)
      · exact ((hL a).mp m).1
      · rw [env_map] at e
        rw [val_map] at q
        exact pasMu a ⟨k, d, e, q⟩
    · intro m
      by_cases hp : Pas a
      · obtain ⟨k, d, e, q⟩ := hp
        exact .inr ⟨k, d, by rw [env_map]; exact e, val_map.mpr q⟩
      · exact .inl (.inr ((hL a).mpr ⟨m, hp⟩))
  have mueq : Mu ⟨γ.obj, L⟩ (vs.map some) (wor as st.g) = Mu γ σ st := funext fun a => propext (muc a)
  refine ⟨⟨γ.obj, L⟩, ⟨by simp [la, lv], fun k s e => ?_, fun j k d d' a e1 e2 q1 q2 => ?_, fun a m => ?_, fun k d a e q m => ?_, S.g0⟩, ⟨?_⟩⟩
  · -- the arguments stand
    rw [env_map] at e
    rw [mueq]
    obtain ⟨er, h1, h2⟩ := at_ k s e
    obtain ⟨v, hv, r⟩ := R.get h1
    refine ⟨v, val_map.mpr hv, ?_⟩
    cases er with
    | v p =>
      cases h2
      exact Rep.gam (γ := γ) (γ' := ⟨γ.obj, L⟩) rfl r
    | own d =>
      cases h2
      obtain ⟨a, e1, _, _, o⟩ := r
      exact ⟨a, e1, OwnR.gam (γ := γ) (γ' := ⟨γ.obj, L⟩) rfl o⟩
    | slot i =>
      have h2 : envAt st i = some s := h2
      obtain ⟨u, hu, r'⟩ := S.sv i _ h2
      have r : σ[i]? = some (some v) := r
      rw [r] at hu
      cases hu
      cases s with
      | v p => exact Rep.gam (γ := γ) (γ' := ⟨γ.obj, L⟩) rfl r'
      | own d =>
        obtain ⟨a, e1, o⟩ := r'
        exact ⟨a, e1, OwnR.gam (γ := γ) (γ' := ⟨γ.obj, L⟩) rfl o⟩
  · rw [env_map] at e1 e2
    rw [val_map] at q1 q2
    rcases own j d e1 with ⟨b, x1, y1, z1, w1, _⟩ | ⟨i, b, x1, y1, z1, w1, _⟩
    · rcases own k d' e2 with ⟨c, x2, y2, z2, w2, _⟩ | ⟨i2, c, x2, y2, z2, w2, _⟩
      · exact R.apart x1 x2 q1 q2
      · rw [q1] at y1; cases y1
        rw [q2] at z2; cases z2
        exact absurd (.inr w1) (S.sep i2 d' _ y2 w2)
    · rcases own k d' e2 with ⟨c, x2, y2, z2, w2, _⟩ | ⟨i2, c, x2, y2, z2, w2, _⟩
      · rw [q2] at y2; cases y2
        rw [q1] at z1; cases z1
        exact absurd (.inr w2) (S.sep i d _ y1 w1)
      · rw [q1] at z1; cases z1
        rw [q2] at z2; cases z2
        have := S.inj i i2 d d' _ y1 y2 w1 w2
        subst this
        exact slots_one nd x1 x2
  · rcases m with m | m
    · exact S.gl a (.inl m)
    · exact S.muSome ((hL a).mp m).1
  · rw [env_map] at e
    rw [val_map] at q
    rcases m with m | m
    · rw [show (⟨γ.obj, L⟩ : Gm).obj = γ.obj from rfl, S.g0.1] at m; cases m
    · exact ((hL a).mp m).2 ⟨k, d, e, q⟩
  · -- the way back
    intro as' g' H' γ' lk T' S' hk1 hk2
    have l' : as'.length = es.length := by
      have := S'.len
      simp at this
      rw [this, lv]
    have Lg : ∀ a, a ∈ L → a ∈ γ'.lock := fun a m => T'.lock a m
    have lkL : ∀ a, a ∈ γs.lock → a ∈ L := fun a m => (hL a).mpr ⟨.inl (.inr (T.lock a m)), fun ⟨k, d, e, q⟩ => by
      rcases own k d e with ⟨b, _, q1, q2, _⟩ | ⟨i, b, _, q2, q3, q4, _⟩
      · rw [q] at q1; cases q1; exact Ls a m q2
      · rw [q] at q3; cases q3; exact S.sep i d _ q2 q4 (.inr (T.lock a m))⟩
    have lk' : ∀ a, a ∈ lk → a ∈ γ'.lock := fun a m => (hk2 a m).elim (fun z => Lg a (lkL a z)) fun z => z.1
    -- a slot behind the call
    have slot : ∀ (i : Nat) (s : SV), envAt (back es as' { st with g := g' }) i = some s → (∃ (k : Nat) (v : V), es[k]? = some (.slot i) ∧ as'[k]? = some s ∧ vs[k]? = some v ∧ σ[i]? = some (some v)) ∨ (i ∉ slotsOf es ∧ envAt st i = some s) := fun i s e => by
      by_cases hi : i ∈ slotsOf es
      · obtain ⟨k, hk⟩ := mem_slots.mp hi
        have hlt : i < st.env.length := by
          have := envAt_lt e
          rw [back_len.1] at this
          exact this
        rw [back_at (st := { st with g := g' }) nd l' hk hlt] at e
        obtain ⟨v, hv, r⟩ := R.get hk
        exact .inl ⟨k, v, hk, e, hv, r⟩
      · rw [back_out hi] at e
        exact .inr ⟨hi, e⟩
    have stay : ∀ (i : Nat) (d : LD) (a : Addr), i ∉ slotsOf es → envAt st i = some (.own d) → σ[i]? = some (some (.ref a)) → a ∈ L := fun i d a hi e q => (hL a).mpr ⟨.inr ⟨i, d, e, q⟩, fun ⟨k, d', e', q'⟩ => by
      rcases own k d' e' with ⟨b, _, q1, _, q3, _⟩ | ⟨j, b, q0, q2, q3, q4, _⟩
      · rw [q'] at q1; cases q1; exact S.sep i d _ e q (.inr q3)
      · rw [q'] at q3; cases q3
        have := S.inj i j d d' _ e q2 q q4
        subst this
        exact hi (mem_slots.mpr ⟨k, q0⟩)⟩
    have back_ : ∀ a, Mu ⟨γ'.obj, lk⟩ σ (back es as' { st with g := g' }) a → Mu γ' (vs.map some) (wor as' g') a := fun a m => by
      rcases m with (m | m) | ⟨i, d, e, q⟩
      · exact .inl (.inl m)
      · exact .inl (.inr (lk' a m))
      · rcases slot i _ e with ⟨k, v, h1, h2, h3, h4⟩ | ⟨hi, h⟩
        · rw [q] at h4; cases h4
          exact .inr ⟨k, d, by rw [env_map]; exact h2, val_map.mpr h3⟩
        · exact .inl (.inr (Lg a (stay i d a hi h q)))
    have T2 : Tr H (Mu γ σ st) ⟨γ.obj, []⟩ H' (Mu ⟨γ'.obj, lk⟩ σ (back es as' { st with g := g' })) ⟨γ'.obj, lk⟩ := by
      refine ⟨fun a o e n => ?_, fun _ m => absurd m (by simp), T'.dom, fun a m => ?_, T'.gam⟩
      · rcases n with n | n
        · exact T'.keep a o e (.inl fun m => n ((muc a).mp m))
        · cases n
      · rcases T'.mu a (back_ a m) with z | z
        · exact .inl ((muc a).mp z)
        · exact .inr z
    have T3 : Tr H' (Mu γ' (vs.map some) (wor as' g')) ⟨γ'.obj, []⟩ H' (Mu ⟨γ'.obj, lk⟩ σ (back es as' { st with g := g' })) ⟨γ'.obj, lk⟩ :=
      ⟨fun _ _ e _ => e, fun _ m => absurd m (by simp), fun _ e => e, fun a m => .inl (back_ a m), ⟨[], by simp⟩⟩
    have svr : ∀ {v : V} {s : SV}, SvR K H' (Mu γ' (vs.map some) (wor as' g')) γ' v s → SvR K H' (Mu ⟨γ'.obj, lk⟩ σ (back es as' { st with g := g' })) ⟨γ'.obj, lk⟩ v s := fun {v s} r => by
      cases s with
      | v p => exact Rep.tr T3 (Rep.gam (γ := γ') (γ' := ⟨γ'.obj, []⟩) rfl r)
      | own d =>
        obtain ⟨a, e1, o⟩ := r
        exact ⟨a, e1, (OwnR.gam (γ := γ') (γ' := ⟨γ'.obj, []⟩) rfl o).tr' T3 fun _ e => e⟩
    refine ⟨⟨by rw [back_len.1]; exact S.len, fun i s e => ?_, fun i j d d' a e1 e2 q1 q2 => ?_, fun a m => ?_, fun i d a e q m => ?_, ⟨S'.g0.1, back_len.2.trans S'.g0.2⟩⟩, ?_, back_⟩
    · rcases slot i _ e with ⟨k, v, h1, h2, h3, h4⟩ | ⟨hi, h⟩
      · refine ⟨v, h4, svr ?_⟩
        obtain ⟨u, hu, r⟩ := S'.sv k s (by rw [env_map]; exact h2)
        rw [val_map, h3] at hu
        cases hu
        exact r
      · obtain ⟨u, hu, r⟩ := S.sv i s h
        refine ⟨u, hu, ?_⟩
        cases s with
        | v p => exact Rep.tr T2 (Rep.gam (γ := γ) (γ' := ⟨γ.obj, []⟩) rfl r)
        | own d =>
          obtain ⟨a, rfl, o⟩ := r
          exact ⟨a, rfl, (OwnR.gam (γ := γ) (γ' := ⟨γ.obj, []⟩) rfl o).tr' T2 fun o' e' => T'.keep a o' e' (.inr (stay i d a hi h hu))⟩
    · rcases slot i _ e1 with ⟨k, v, h1, h2, h3, h4⟩ | ⟨hi, h⟩
      · rw [q1] at h4; cases h4
        rcases slot j _ e2 with ⟨k2, v2, g1, g2, g3, g4⟩ | ⟨hj, h'⟩
        · rw [q2] at g4; cases g4
          have := S'.inj k k2 d d' a (by rw [env_map]; exact h2) (by rw [env_map]; exact g2) (val_map.mpr h3) (val_map.mpr g3)
          subst this
          rw [h1] at g1
          cases g1
          rfl
        · exact absurd (.inr (Lg a (stay j d' a hj h' q2))) (S'.sep k d a (by rw [env_map]; exact h2) (val_map.mpr h3))
      · rcases slot j _ e2 with ⟨k2, v2, g1, g2, g3, g4⟩ | ⟨hj, h'⟩
        · rw [q2] at g4; cases g4
          exact absurd (.inr (Lg a (stay i d a hi h q1))) (S'.sep k2 d' a (by rw [env_map]; exact g2) (val_map.mpr g3))
        · exact S.inj i j d d' a h h' q1 q2
    · rcases m with m | m
      · exact S'.gl a (.inl m)
      · exact S'.gl a (.inr (lk' a m))
    · rcases slot i _ e with ⟨k, v, h1, h2, h3, h4⟩ | ⟨hi, h⟩
      · rw [q] at h4; cases h4
        refine S'.sep k d a (by rw [env_map]; exact h2) (val_map.mpr h3) ?_
        rcases m with m | m
        · exact .inl m
        · exact .inr (lk' a m)
      · rcases m with m | m
        · rw [show (⟨γ'.obj, lk⟩ : Gm).obj = γ'.obj from rfl, S'.g0.1] at m; cases m
        · rcases hk2 a m with z | ⟨_, z⟩
          · exact S.sep i d a h q (.inr (T.lock a z))
          · obtain ⟨o, ho⟩ := S.muSome (.inr ⟨i, d, h, q⟩)
            rw [z] at ho; cases ho
    · refine ⟨fun a o e n => ?_, hk1, fun a e => T.dom a (T'.dom a e), fun a m => ?_, ?_⟩
      · have e2 := T.keep a o e n
        refine T'.keep a o e2 ?_
        by_cases hm : Mu γ σ st a
        · refine .inr ((hL a).mpr ⟨hm, fun ⟨k, d, e', q⟩ => ?_⟩)
          rcases own k d e' with ⟨b, _, q1, q2, _⟩ | ⟨i, b, _, q2, q3, q4, _⟩
          · rw [q] at q1; cases q1
            rw [e] at q2; cases q2
          · rw [q] at q3; cases q3
            rcases n with n | n
            · rcases T.mu a hm with z | z
              · exact n z
              · rw [e] at z; cases z
            · exact S.sep i d _ q2 q4 (.inr (T.lock a n))
        · exact .inl fun m => hm ((muc a).mp m)
      · rcases T'.mu a (back_ a m) with z | z
        · exact T.mu a ((muc a).mp z)
        · exact .inr (T.dom a z)
      · obtain ⟨e1, h1⟩ := T.gam
        obtain ⟨e2, h2⟩ := T'.gam
        exact ⟨e1 ++ e2, by rw [h2, show (⟨γ.obj, L⟩ : Gm).obj = γ.obj from rfl, h1, List.append_assoc]⟩
end
end Q
end
section
set_option maxHeartbeats 1000000
namespace Q
open PySem PySem.Spec PyProof.Rows
open L2 hiding cutV
/-! ### statements: how they are read -/
/-- the parameters that are never stored anew stand as they were -/
def Kp (C : Ctx) (σ σ' : L2.St) : Prop := ∀ i, C.ro i = true → σ'[i]? = σ[i]?
theorem Kp.refl {C : Ctx} {σ : L2.St} : Kp C σ σ := fun _ _ => rfl
theorem Kp.trans {C : Ctx} {σ σ1 σ2 : L2.St} (a : Kp C σ σ1) (b : Kp C σ1 σ2) : Kp C σ σ2 := fun i h => (b i h).trans (a i h)
/-- a step from one state to the next -/
structure Stp (B : Bs) (C : Ctx) (σ : L2.St) (H : Hp) (γ : Gm) (st : ST) (σ' : L2.St) (H' : Hp) (γ' : Gm) (st' : ST) : Prop where
  tr : Tr H (Mu γ σ st) γ H' (Mu γ' σ' st') γ'
  sim : Sim B.K H' γ' σ' st'
  kp : Kp C σ σ'
theorem Stp.trans {B : Bs} {C : Ctx} {σ σ1 σ2 : L2.St} {H H1 H2 : Hp} {γ γ1 γ2 : Gm} {st st1 st2 : ST} (a : Stp B C σ H γ st σ1 H1 γ1 st1) (b : Stp B C σ1 H1 γ1 st1 σ2 H2 γ2 st2) : Stp B C σ H γ st σ2 H2 γ2 st2 :=
  ⟨a.tr.trans b.tr, b.sim, a.kp.trans b.kp⟩
def sK (B : Bs) (C : Ctx) (σ : L2.St) (H : Hp) (γ : Gm) (st : ST) (D : Ends) : SO → Prop
  | .nx st' => ∀ σ' H' γ', Stp B C σ H γ st σ' H' γ' st' → D.nx σ' H'
  | .ret r st' => ∀ v σ' H' γ', Stp B C σ H γ st σ' H' γ' st' → ErR B.K H H' γ' σ' st' v r → D.rt v H'
  | .bk st' => ∀ σ' H' γ', Stp B C σ H γ st σ' H' γ' st' → D.bk σ' H'
  | .ct st' => ∀ σ' H' γ', Stp B C σ H γ st σ' H' γ' st' → D.ct σ' H'
  | .exc x st' => ∀ cls d σ' H' γ', Stp B C σ H γ st σ' H' γ' st' → XcR B.K B.mg H' (Mu γ' σ' st') γ' x cls d → B.W cls d σ' H'
  | .bad => False
theorem sK.from {B : Bs} {C : Ctx} {σ σ1 : L2.St} {H H1 : Hp} {γ γ1 : Gm} {st st1 : ST} {D : Ends} {o : SO} (h : sK B C σ H γ st D o) (a : Stp B C σ H γ st σ1 H1 γ1 st1) : sK B C σ1 H1 γ1 st1 D o := by
  cases o with
  | nx st' => exact fun σ' H' γ' b => h σ' H' γ' (a.trans b)
  | ret r st' => exact fun v σ' H' γ' b e => h v σ' H' γ' (a.trans b) (e.old a.tr.dom)
  | bk st' => exact fun σ' H' γ' b => h σ' H' γ' (a.trans b)
  | ct st' => exact fun σ' H' γ' b => h σ' H' γ' (a.trans b)
  | exc x st' => exact fun cls d σ' H' γ' b e => h cls d σ' H' γ' (a.trans b) e
  | bad => exact h.elim
def tS (B : Bs) (C : Ctx) (m : S) : TS := fun D σ H => ∃ γ st, Sim B.K H γ σ st ∧ sK B C σ H γ st D (ex C m st)
def tSs (B : Bs) (C : Ctx) (m : SL) : TS := fun D σ H => ∃ γ st, Sim B.K H γ σ st ∧ sK B C σ H γ st D (exs C m st)
theorem _root_.L2.PS.mono {X : Cx} {e : Stmt} {t t' : TS} (h : PS X e t) (imp : ∀ D σ H, t' D σ H → t D σ H) : PS X e t' := ⟨fun pins s σ H D I q => h.run pins s σ H D I (imp D σ H q)⟩
theorem _root_.L2.PSs.mono {X : Cx} {e : List Stmt} {t t' : TS} (h : PSs X e t) (imp : ∀ D σ H, t' D σ H → t D σ H) : PSs X e t' := ⟨fun pins s σ H D I q => h.run pins s σ H D I (imp D σ H q)⟩
/-! ### a def's promise -/
def COut.wp (o : COut) (q : SV → List SV → List GI → Prop) (e : XV → List SV → List GI → Prop) : Prop := match o with
  | .ret r as g => q r as g
  | .exc x as g => e x as g
  | .bad => False
/-- the wish of a callee -/
abbrev Bs.of (K : PySem.W.Frag) (mg : Str → Option Value) (E : XK) : Bs := ⟨K, mg, fun cls d _ H => E cls d H⟩
def spF (K : PySem.W.Frag) (mg : Str → Option Value) (T : Tbl) (n : Nat) (f : Str) : Sp := fun vs H Qk E => ∃ (γ : Gm) (as : List SV) (g : List GI), Sim K H γ (vs.map some) (wor as g) ∧
  (callN T n f as g).wp (fun r as' g' => okK (Bs.of K mg E) (vs.map some) H γ (wor as g) (relE K (vs.map some) H) Qk r.er (wor as' g')) fun x as' g' => excK (Bs.of K mg E) (vs.map some) H γ (wor as g) x (wor as' g')
section
variable {K : PySem.W.Frag} {H0 H H' : Hp} {γ γ' : Gm} {σ σ' : L2.St} {st st' : ST} {v : V} {vs : List V} {as bs as' : List SV} {g : List GI} {re : List Nat}
/-- several lists made values -/
theorem Sim.frzs (S : Sim K H γ σ st) (hl : st'.env.length = st.env.length) (hg : st'.g = st.g)
    (h : ∀ i s, envAt st' i = some s → envAt st i = some s ∨ ∃ xs, s = .v (.lst xs) ∧ envAt st i = some (.own (.lst xs))) : Sim K H γ σ st' ∧ Tr H (Mu γ σ st) γ H (Mu γ σ st') γ := by
  have own : ∀ i d, envAt st' i = some (.own d) → envAt st i = some (.own d) := fun i d e => by
    rcases h i _ e with z | ⟨xs, z, _⟩
    · exact z
    · cases z
  have T : Tr H (Mu γ σ st) γ H (Mu γ σ st') γ := ⟨fun _ _ e _ => e, fun _ e => e, fun _ e => e, fun a m => .inl (by
    rcases m with m | ⟨j, d, e, q⟩
    · exact .inl m
    · exact .inr ⟨j, d, own j d e, q⟩), ⟨[], by simp⟩⟩
  refine ⟨⟨by rw [hl]; exact S.len, fun i s e => ?_, fun j k d s a e1 e2 q1 q2 => S.inj j k d s a (own _ _ e1) (own _ _ e2) q1 q2, S.gl, fun j d a e q => S.sep j d a (own _ _ e) q, ⟨S.g0.1, by rw [hg]; exact S.g0.2⟩⟩, T⟩
  rcases h i s e with z | ⟨xs, rfl, z⟩
  · obtain ⟨u, hu, r⟩ := S.sv i s z
    refine ⟨u, hu, ?_⟩
    cases s with
    | v p => exact Rep.tr T r
    | own d =>
      obtain ⟨a, e1, r⟩ := r
      exact ⟨a, e1, r.tr' T fun _ e => e⟩
  · obtain ⟨u, hu, a, rfl, ws, ha, r⟩ := S.sv i _ z
    refine ⟨_, hu, Rep.lst ha (fun m => ?_) (Reps.tr T r)⟩
    rcases m with m | ⟨k, d, e1, q⟩
    · exact S.sep i _ a z hu m
    · have := S.inj k i d _ a (own _ _ e1) z q hu
      subst this
      rw [e] at e1
      cases e1
theorem frzArgs_at : ∀ {as bs : List SV} {i : Nat}, frzArgs re i as = some bs → bs.length = as.length ∧ ∀ (k : Nat) (s : SV), bs[k]? = some s → ∃ a, as[k]? = some a ∧ (a = s ∨ ∃ xs, s = .v (.lst xs) ∧ a = .own (.lst xs)) ∧ (re.contains (i + k) = true → ∃ p, s = .v p)
  | [], bs, i, h => by
    cases h
    exact ⟨rfl, fun k s e => by simp at e⟩
  | a :: r, bs, i, h => by
    simp only [frzArgs] at h
    split at h
    · rename_i b c h1 h2
      cases h
      obtain ⟨l, q⟩ := frzArgs_at h2
      refine ⟨by rw [List.length_cons, List.length_cons, l], fun k s e => ?_⟩
      cases k with
      | zero =>
        simp at e
        subst e
        refine ⟨a, rfl, ?_⟩
        split at h1
        · unfold frzArg at h1
          split at h1
          · cases h1; exact ⟨.inl rfl, fun _ => ⟨_, rfl⟩⟩
          · cases h1; exact ⟨.inr ⟨_, rfl, rfl⟩, fun _ => ⟨_, rfl⟩⟩
          · cases h1
        · rename_i hc
          cases h1
          exact ⟨.inl rfl, fun z => absurd z hc⟩
      | succ k =>
        obtain ⟨a', h3, h4, h5⟩ := q k s (by simpa using e)
        exact ⟨a', by simpa using h3, h4, fun z => h5 (by rw [show i + 1 + k = i + (k + 1) by omega]; exact z)⟩
    · cases h
theorem finals_at {e : Env} : ∀ {as bs : List SV} {i : Nat}, finals re e i as = some bs → bs.length = as.length ∧ ∀ (k : Nat) (b : SV), bs[k]? = some b → ∃ a, as[k]? = some a ∧ if re.contains (i + k) = true then b = a else (e[i + k]?).join = some b ∧ okBack a b = true
  | [], bs, i, h => by
    cases h
    exact ⟨rfl, fun k s e => by simp at e⟩
  | a :: r, bs, i, h => by
    simp only [finals] at h
    split at h
    · rename_i b c h1 h2
      cases h
      obtain ⟨l, q⟩ := finals_at h2
      refine ⟨by rw [List.length_cons, List.length_cons, l], fun k s e => ?_⟩
      cases k with
      | zero =>
        simp at e
        subst e
        refine ⟨a, rfl, ?_⟩
        rw [Nat.add_zero]
        split at h1
        · rename_i hc
          cases h1
          rw [if_pos hc]
        · rename_i hc
          rw [if_neg hc]
          obtain ⟨y, h3, h4⟩ := Option.bind_eq_some_iff.mp h1
          split at h4
          · rename_i ho
            cases h4
            exact ⟨h3, ho⟩
          · cases h4
      | succ k =>
        obtain ⟨a', h3, h4⟩ := q k s (by simpa using e)
        refine ⟨a', by simpa using h3, ?_⟩
        rw [show i + 1 + k = i + (k + 1) by omega] at h4
        exact h4
    · cases h
/-- into the body: the further names hold nothing yet -/
theorem Sim.begin {N : List Str} {n : Nat} (S : Sim K H γ (vs.map some) (wor bs g)) (hn : N.length = n) (hl : vs.length ≤ n) :
    Sim K H γ (L2.start N vs) ⟨bs.map some ++ List.replicate (n - bs.length) none, g⟩ ∧ Mu γ (L2.start N vs) ⟨bs.map some ++ List.replicate (n - bs.length) none, g⟩ = Mu γ (vs.map some) (wor bs g) := by
  have lb : bs.length = vs.length := by have := S.len; simpa using this
  have at_ : ∀ i s, envAt ⟨bs.map some ++ List.replicate (n - bs.length) none, g⟩ i = some s → bs[i]? = some s := fun i s e => by
    unfold envAt at e
    dsimp only at e
    by_cases hi : i < bs.length
    · rw [List.getElem?_append_left (by simpa using hi), List.getElem?_map] at e
      cases q : bs[i]? with
      | none => rw [q] at e; cases e
      | some b => rw [q] at e; cases e; rfl
    · rw [List.getElem?_append_right (by simpa using hi), List.getElem?_replicate] at e
      split at e <;> cases e
  have at' : ∀ i s, bs[i]? = some s → envAt ⟨bs.map some ++ List.replicate (n - bs.length) none, g⟩ i = some s := fun i s e => by
    have hi := (List.getElem?_eq_some_iff.mp e).1
    unfold envAt
    dsimp only
    rw [List.getElem?_append_left (by simpa using hi), List.getElem?_map, e]
    rfl
  have sg : ∀ i, i < vs.length → (L2.start N vs)[i]? = (vs.map some)[i]? := fun i hi => by
    unfold L2.start
    rw [List.getElem?_append_left (by simpa using hi)]
  have lt : ∀ {i s}, bs[i]? = some s → i < vs.length := fun e => by
    rw [← lb]
    exact (List.getElem?_eq_some_iff.mp e).1
  have mu : Mu γ (L2.start N vs) ⟨bs.map some ++ List.replicate (n - bs.length) none, g⟩ = Mu γ (vs.map some) (wor bs g) := by
    funext a
    refine propext ⟨fun m => ?_, fun m => ?_⟩
    · rcases m with m | ⟨i, d, e, q⟩
      · exact .inl m
      · have e := at_ i _ e
        rw [sg i (lt e)] at q
        exact .inr ⟨i, d, by rw [env_map]; exact e, q⟩
    · rcases m with m | ⟨i, d, e, q⟩
      · exact .inl m
      · rw [env_map] at e
        exact .inr ⟨i, d, at' i _ e, by rw [sg i (lt e)]; exact q⟩
  refine ⟨⟨?_, fun i s e => ?_, fun i j d d' a e1 e2 q1 q2 => ?_, S.gl, fun i d a e q => ?_, S.g0⟩, mu⟩
  · unfold L2.start
    simp only [List.length_append, List.length_map, List.length_replicate]
    omega
  · have e := at_ i s e
    obtain ⟨u, hu, r⟩ := S.sv i s (by rw [env_map]; exact e)
    exact ⟨u, by rw [sg i (lt e)]; exact hu, by rw [mu]; exact r⟩
  · have e1 := at_ _ _ e1
    have e2 := at_ _ _ e2
    rw [sg _ (lt e1)] at q1
    rw [sg _ (lt e2)] at q2
    exact S.inj i j d d' a (by rw [env_map]; exact e1) (by rw [env_map]; exact e2) q1 q2
  · have e := at_ _ _ e
    rw [sg _ (lt e)] at q
    exact S.sep i d a (by rw [env_map]; exact e) q
/-- out of the body -/
theorem Sim.leave (S : Sim K H γ (vs.map some) (wor bs g)) (T : Tr H (Mu γ (vs.map some) (wor bs g)) γ H' (Mu γ' σ' st') γ') (S' : Sim K H' γ' σ' st') (hf : finals re st'.env 0 bs = some as')
    (hσ : ∀ i v, vs[i]? = some v → re.contains i = false → σ'[i]? = some (some v)) (hre : ∀ (i : Nat) (s : SV), bs[i]? = some s → re.contains i = true → ∃ p, s = .v p) {lk : List Addr}
    (h1 : ∀ a, a ∈ γ'.lock → a ∈ lk) (h2 : ∀ a, a ∈ lk → a ∈ γ'.lock ∨ (Mu γ' σ' st' a ∧ ∀ (k : Nat) (d : LD), k < vs.length → re.contains k = false → envAt st' k = some (.own d) → σ'[k]? ≠ some (some (.ref a)))) :
    Sim K H' ⟨γ'.obj, lk⟩ (vs.map some) (wor as' st'.g) ∧ Tr H' (Mu γ' σ' st') ⟨γ'.obj, []⟩ H' (Mu ⟨γ'.obj, lk⟩ (vs.map some) (wor as' st'.g)) ⟨γ'.obj, lk⟩ := by
  have lb : bs.length = vs.length := by have := S.len; simpa using this
  obtain ⟨la, fa⟩ := finals_at hf
  have own : ∀ (k : Nat) (d : LD), as'[k]? = some (.own d) → k < vs.length ∧ re.contains k = false ∧ envAt st' k = some (.own d) := fun k d e => by
    obtain ⟨a, h3, h4⟩ := fa k _ e
    rw [Nat.zero_add] at h4
    have hk := (List.getElem?_eq_some_iff.mp h3).1
    split at h4
    · rename_i hc
      subst h4
      obtain ⟨p, z⟩ := hre k _ h3 hc
      cases z
    · rename_i hc
      exact ⟨by omega, by simpa using hc, h4.1⟩
  have hv : ∀ {k : Nat} {a : Addr}, k < vs.length → re.contains k = false → (vs.map some)[k]? = some (some (.ref a)) → σ'[k]? = some (some (.ref a)) := fun {k a} hk hc q => hσ k _ (val_map.mp q) hc
  have sub : ∀ a, Mu ⟨γ'.obj, lk⟩ (vs.map some) (wor as' st'.g) a → Mu γ' σ' st' a := fun a m => by
    rcases m with (m | m) | ⟨k, d, e, q⟩
    · exact .inl (.inl m)
    · rcases h2 a m with z | z
      · exact .inl (.inr z)
      · exact z.1
    · rw [env_map] at e
      obtain ⟨x1, x2, x3⟩ := own k d e
      exact .inr ⟨k, d, x3, hv x1 x2 q⟩
  have T' : Tr H' (Mu γ' σ' st') ⟨γ'.obj, []⟩ H' (Mu ⟨γ'.obj, lk⟩ (vs.map some) (wor as' st'.g)) ⟨γ'.obj, lk⟩ := ⟨fun _ _ e _ => e, fun _ m => absurd m (by simp), fun _ e => e, fun a m => .inl (sub a m), ⟨[], by simp⟩⟩
  refine ⟨⟨by simp [la, lb], fun k s e => ?_, fun i j d d' a e1 e2 q1 q2 => ?_, fun a m => ?_, fun k d a e q m => ?_, S'.g0⟩, T'⟩
  · rw [env_map] at e
    obtain ⟨a, h3, h4⟩ := fa k s e
    rw [Nat.zero_add] at h4
    split at h4
    · rename_i hc
      subst h4
      obtain ⟨p, rfl⟩ := hre k _ h3 hc
      obtain ⟨u, hu, r⟩ := S.sv k _ (by rw [env_map]; exact h3)
      exact ⟨u, hu, Rep.tr T' (Rep.gam (γ := γ') (γ' := ⟨γ'.obj, []⟩) rfl (Rep.tr T r))⟩
    · rename_i hc
      obtain ⟨u, hu, r⟩ := S'.sv k s h4.1
      obtain ⟨w, hw, _⟩ := S.sv k a (by rw [env_map]; exact h3)
      have := hσ k w (val_map.mp hw) (by simpa using hc)
      rw [hu] at this
      cases this
      refine ⟨u, hw, ?_⟩
      cases s with
      | v p => exact Rep.tr T' (Rep.gam (γ := γ') (γ' := ⟨γ'.obj, []⟩) rfl r)
      | own d =>
        obtain ⟨b, e1, o⟩ := r
        exact ⟨b, e1, (OwnR.gam (γ := γ') (γ' := ⟨γ'.obj, []⟩) rfl o).tr' T' fun _ e => e⟩
  · rw [env_map] at e1 e2
    obtain ⟨x1, x2, x3⟩ := own i d e1
    obtain ⟨y1, y2, y3⟩ := own j d' e2
    exact S'.inj i j d d' a x3 y3 (hv x1 x2 q1) (hv y1 y2 q2)
  · rcases m with m | m
    · exact S'.gl a (.inl m)
    · rcases h2 a m with z | z
      · exact S'.gl a (.inr z)
      · exact S'.muSome z.1
  · rw [env_map] at e
    obtain ⟨x1, x2, x3⟩ := own k d e
    rcases m with m | m
    · exact S'.sep k d a x3 (hv x1 x2 q) (.inl m)
    · rcases h2 a m with z | z
      · exact S'.sep k d a x3 (hv x1 x2 q) (.inr z)
      · exact z.2 k d x1 x2 x3 (hv x1 x2 q)
end
end Q
end
section
set_option maxHeartbeats 1000000
namespace Q
open PySem PySem.Spec PyProof.Rows
open L2 hiding cutV
section
variable {K : PySem.W.Frag} {mg : Str → Option Value} {E : XK} {H0 H H' : Hp} {γ γ' γ'' : Gm} {σ σ' : L2.St} {st st' : ST} {v : V} {vs : List V} {as bs as' : List SV} {g : List GI} {fn : Fn}
theorem Tr.seal {M M' M'' : Addr → Prop} {H'' : Hp} (T : Tr H M γ H' M' γ') (T' : Tr H' M' ⟨γ'.obj, []⟩ H'' M'' γ'') (he : H'' = H') (hk : ∀ a, a ∈ γ'.lock → a ∈ γ''.lock) : Tr H M γ H'' M'' γ'' := by
  subst he
  refine ⟨T.keep, fun a m => hk a (T.lock a m), T.dom, fun a m => ?_, ?_⟩
  · rcases T'.mu a m with z | z
    · exact T.mu a z
    · exact .inr (T.dom a z)
  · obtain ⟨e1, h1⟩ := T.gam
    obtain ⟨e2, h2⟩ := T'.gam
    exact ⟨e1 ++ e2, by rw [h2, show (⟨γ'.obj, []⟩ : Gm).obj = γ'.obj from rfl, h1, List.append_assoc]⟩
theorem fn_out (S : Sim K H γ (vs.map some) (wor bs g)) (T : Tr H (Mu γ (vs.map some) (wor bs g)) γ H' (Mu γ' σ' st') γ') (S' : Sim K H' γ' σ' st') (hnp : vs.length = fn.np)
    (hσ : ∀ i v, vs[i]? = some v → fn.re.contains i = false → σ'[i]? = some (some v)) (hre : ∀ (i : Nat) (s : SV), bs[i]? = some s → fn.re.contains i = true → ∃ p, s = .v p) {r : ER} (R : ErR K H H' γ' σ' st' v r)
    {P Ex : _} (h : (retO fn bs r st').wp P Ex) :
    ∃ r' as' g' γ'', P r' as' g' ∧ Sim K H' γ'' (vs.map some) (wor as' g') ∧ Tr H (Mu γ (vs.map some) (wor bs g)) γ H' (Mu γ'' (vs.map some) (wor as' g')) γ'' ∧ ErR K H H' γ'' (vs.map some) (wor as' g') v r'.er := by
  -- a value
  have val : ∀ {st1 : ST} {p : PV}, Sim K H' γ' σ' st1 → Tr H (Mu γ (vs.map some) (wor bs g)) γ H' (Mu γ' σ' st1) γ' → Rep K H' (Mu γ' σ' st1) γ' v p →
      COut.wp (match finals fn.re st1.env 0 bs with | some bs' => COut.ret (.v p) bs' st1.g | none => .bad) P Ex →
      ∃ r' as' g' γ'', P r' as' g' ∧ Sim K H' γ'' (vs.map some) (wor as' g') ∧ Tr H (Mu γ (vs.map some) (wor bs g)) γ H' (Mu γ'' (vs.map some) (wor as' g')) γ'' ∧ ErR K H H' γ'' (vs.map some) (wor as' g') v r'.er := by
    intro st1 p S1 T1 R1 h
    split at h
    · rename_i as' hf
      obtain ⟨S2, T2⟩ := Sim.leave S T1 S1 hf hσ hre (lk := γ'.lock) (fun _ m => m) fun _ m => .inl m
      exact ⟨_, _, _, _, h, S2, T1.seal T2 rfl fun _ m => m, Rep.tr T2 (Rep.gam (γ := γ') (γ' := ⟨γ'.obj, []⟩) rfl R1)⟩
    · exact h.elim
  unfold retO at h
  cases r with
  | v p => exact val S' T R h
  | own d =>
    dsimp only at h
    split at h
    · rename_i as' hf
      obtain ⟨S2, T2⟩ := Sim.leave S T S' hf hσ hre (lk := γ'.lock) (fun _ m => m) fun _ m => .inl m
      obtain ⟨a, h1, h2, h3, h4⟩ := R
      exact ⟨_, _, _, _, h, S2, T.seal T2 rfl fun _ m => m, a, h1, h2, h3, (OwnR.gam (γ := γ') (γ' := ⟨γ'.obj, []⟩) rfl h4).tr' T2 fun _ e => e⟩
    · exact h.elim
  | slot i =>
    have R : σ'[i]? = some (some v) := R
    dsimp only at h
    split at h
    · split at h
      · rename_i p st1 hf
        obtain ⟨S1, T1, R1⟩ := frzU (v := v) S' hf R
        exact val S1 (T.trans T1) R1 h
      · exact h.elim
    · rename_i hnr
      split at h
      · rename_i s q
        obtain ⟨u, hu, r'⟩ := S'.sv i s q
        rw [R] at hu
        cases hu
        cases s with
        | v p => exact val S' T r' h
        | own d =>
          split at h
          · rename_i as' hf
            obtain ⟨a, rfl, o⟩ := r'
            -- the local list is new
            have hi : ¬ (i < vs.length ∧ fn.re.contains i = false) := fun z => by
              apply hnr
              rw [← hnp, z.2]
              simp [z.1]
            obtain ⟨lf, fa⟩ := finals_at hf
            have own : ∀ (k : Nat) (d : LD), k < vs.length → fn.re.contains k = false → envAt st' k = some (.own d) → σ'[k]? ≠ some (some (.ref a)) := fun k d' hk hc e z => by
              have := S'.inj k i d' d a e q z R
              subst this
              exact hi ⟨hk, hc⟩
            have new : H a = none := by
              rcases T.mu a (.inr ⟨i, d, q, R⟩) with (m | m) | m
              · exact absurd (.inr (T.lock a (by
                  rcases m with m | m
                  · rw [S.g0.1] at m; cases m
                  · exact m))) (S'.sep i d a q R)
              · obtain ⟨k, d0, e, z⟩ := m
                rw [env_map] at e
                have hk := (List.getElem?_eq_some_iff.mp e).1
                have lb : bs.length = vs.length := by have := S.len; simpa using this
                obtain ⟨b, hb⟩ : ∃ b, as'[k]? = some b := ⟨as'[k]'(by omega), by simp⟩
                obtain ⟨y, h3, h4⟩ := fa k b hb
                rw [Nat.zero_add] at h4
                rw [e] at h3
                cases h3
                split at h4
                · rename_i hc
                  obtain ⟨p, z⟩ := hre k _ e hc
                  cases z
                · rename_i hc
                  have hc : fn.re.contains k = false := by simpa using hc
                  have zk := hσ k _ (val_map.mp z) hc
                  cases b with
                  | own d1 => exact absurd zk (own k d1 (by omega) hc h4.1)
                  | v p =>
                    have hb : okBack (.own d0) (.v p) = true := h4.2
                    cases p <;> first
                      | (cases hb; done)
                      | skip
                    obtain ⟨u, hu, ru⟩ := S'.sv k _ h4.1
                    rw [zk] at hu
                    cases hu
                    cases ru with
                    | lst _ n _ => exact absurd (.inr ⟨i, d, q, R⟩) n
              · exact m
            obtain ⟨S2, T2⟩ := Sim.leave S T S' hf hσ hre (lk := a :: γ'.lock) (fun _ m => .tail _ m) fun b m => by
              rcases List.mem_cons.mp m with rfl | m
              · exact .inr ⟨.inr ⟨i, d, q, R⟩, own⟩
              · exact .inl m
            exact ⟨_, _, _, _, h, S2, T.seal T2 rfl fun _ m => .tail _ m, a, rfl, new, .head _, (OwnR.gam (γ := γ') (γ' := ⟨γ'.obj, []⟩) rfl o).tr' T2 fun _ e => e⟩
          · exact h.elim
      · exact h.elim
theorem xcR_tr {M M' : Addr → Prop} {x : XV} {cls : Value} {d : Option Addr} (T : Tr H M ⟨γ.obj, []⟩ H' M' γ') (hk : ∀ a o, H a = some o → H' a = some o) (h : XcR K mg H M γ x cls d) : XcR K mg H' M' γ' x cls d := by
  refine ⟨h.1, ?_⟩
  have := h.2
  revert this
  cases x.arg with
  | none => exact fun z => z
  | some fp =>
    rintro ⟨dd, v, h1, h2, h3⟩
    exact ⟨dd, v, h1, hk _ _ h2, Rep.tr T (Rep.gam (γ := γ) (γ' := ⟨γ.obj, []⟩) rfl h3)⟩
/-- the body answers the promise -/
theorem fn_body {T : Tbl} {n : Nat} {f : Str} {N : List Str} {Qk : VK} (hT : T f = some fn) (hN : N.length = fn.n) (hnp : fn.np ≤ fn.n) (h : spF K mg T (n + 1) f vs H Qk E) :
    tSs (Bs.of K mg E) ⟨callN T n, fn.np, fn.re, whileFuel⟩ fn.body { nx := fun _ H' => Qk .non H', rt := Qk } (L2.start N vs) H := by
  obtain ⟨γ, as, g, S, h⟩ := h
  rw [callN, hT] at h
  dsimp only at h
  split at h
  · rename_i hl
    split at h
    · exact h.elim
    · rename_i bs hb
      obtain ⟨lb, fb⟩ := frzArgs_at hb
      have lv : as.length = vs.length := by have := S.len; simpa using this
      obtain ⟨S1, T1⟩ := S.frzs (st' := wor bs g) (by simp [lb]) rfl fun i s e => by
        rw [env_map] at e ⊢
        obtain ⟨a, h1, h2, _⟩ := fb i s e
        rcases h2 with rfl | ⟨xs, rfl, rfl⟩
        · exact .inl h1
        · exact .inr ⟨xs, rfl, h1⟩
      obtain ⟨S2, mu⟩ := S1.begin (N := N) hN (by omega)
      have hre : ∀ (i : Nat) (s : SV), bs[i]? = some s → fn.re.contains i = true → ∃ p, s = .v p := fun i s e c => by
        obtain ⟨_, _, _, h3⟩ := fb i s e
        exact h3 (by rw [Nat.zero_add]; exact c)
      have lbb : bs.length = fn.np := by omega
      rw [lbb] at S2 mu
      have hS : ∀ {σ' : L2.St}, Kp ⟨callN T n, fn.np, fn.re, whileFuel⟩ (L2.start N vs) σ' → ∀ i v, vs[i]? = some v → fn.re.contains i = false → σ'[i]? = some (some v) := fun {σ'} kp i v e c => by
        have hi := (List.getElem?_eq_some_iff.mp e).1
        rw [kp i (by unfold Ctx.ro; rw [c]; simp; omega)]
        unfold L2.start
        rw [List.getElem?_append_left (by simpa using hi), List.getElem?_map, e]
        rfl
      refine ⟨γ, _, S2, ?_⟩
      have ret : ∀ {r : ER} {st' : ST} {v : V} {σ' : L2.St} {H' : Hp} {γ' : Gm}, Stp (Bs.of K mg E) ⟨callN T n, fn.np, fn.re, whileFuel⟩ (L2.start N vs) H γ ⟨bs.map some ++ List.replicate (fn.n - fn.np) none, g⟩ σ' H' γ' st' → ErR K H H' γ' σ' st' v r →
          (retO fn bs r st').wp (fun r as' g' => okK (Bs.of K mg E) (vs.map some) H γ (wor as g) (relE K (vs.map some) H) Qk r.er (wor as' g')) (fun x as' g' => excK (Bs.of K mg E) (vs.map some) H γ (wor as g) x (wor as' g')) → Qk v H' := by
        intro r st' v σ' H' γ' P R h
        have T2 := P.tr
        rw [mu] at T2
        obtain ⟨r', as', g', γ'', h, S3, T3, R3⟩ := fn_out S1 T2 P.sim (by omega) (hS P.kp) hre R h
        exact h v H' γ'' (T1.trans T3) S3 R3
      generalize exs ⟨callN T n, fn.np, fn.re, whileFuel⟩ fn.body ⟨bs.map some ++ List.replicate (fn.n - fn.np) none, g⟩ = o at h
      cases o with
      | nx st' => exact fun σ' H' γ' P => ret (r := .v .non) P Rep.non h
      | ret r st' => exact fun v σ' H' γ' P R => ret P R h
      | bk st' => exact h.elim
      | ct st' => exact h.elim
      | bad => exact h.elim
      | exc x st' =>
        intro cls d σ' H' γ' P R
        dsimp only at h
        split at h
        · rename_i as' hf
          have T2 := P.tr
          rw [mu] at T2
          obtain ⟨S3, T3⟩ := Sim.leave S1 T2 P.sim hf (hS P.kp) hre (lk := γ'.lock) (fun _ m => m) fun _ m => .inl m
          exact h cls d H' _ (T1.trans (T2.seal T3 rfl fun _ m => m)) S3 (xcR_tr T3 (fun _ _ e => e) R)
        · exact h.elim
  · exact h.elim
end
end Q
end
section
set_option maxHeartbeats 1000000
namespace Q
open PySem PySem.Spec PyProof.Rows
open L2 hiding cutV
/-! ### defs: as HandS has them, with what is said of the guards -/
structure FnG (P : Program) (w : World) (K : PySem.W.Frag) (mg : Str → Option Value) (base : Heap) (CX : CXT) (k : Nat) (f : Addr) (fd : FuncData) (ps : List Str) (sp : Sp) : Prop where
  ln : ∀ vs H Qk E, sp vs H Qk E → vs.length = ps.length
  go : ∀ (A : Around) (outer : List PySem.Env) (s : Shared) (H : Hp) (args : Args) (us : List Value) (vs : List V) (Qk : VK) (E : XK), A.guards = some [] → Room k A → Env0 P w K mg base A outer s H → BindsTo s fd args (ps.zip us) → Vals vs us →
    sp vs H Qk E → codeAny (model P w) A (.call (.ref f) args) (CR CX outer P w H s Qk E) s
theorem FnG.fnOk {P : Program} {w : World} {K : PySem.W.Frag} {mg : Str → Option Value} {base : Heap} {CX : CXT} {k : Nat} {f : Addr} {fd : FuncData} {ps : List Str} {sp : Sp} (F : FnG P w K mg base CX k f fd ps sp)
    (A0 : Around) (h0 : A0.guards = some []) : ∀ (outer : List PySem.Env) (s : Shared) (H : Hp) (args : Args) (us : List Value) (vs : List V) (Qk : VK) (E : XK), Room k A0 → Env0 P w K mg base A0 outer s H → BindsTo s fd args (ps.zip us) → Vals vs us → sp vs H Qk E →
      codeAny (model P w) A0 (.call (.ref f) args) (CR CX outer P w H s Qk E) s := fun outer s H args us vs Qk E => F.go A0 outer s H args us vs Qk E h0
/-- a def as it stands, with any defaults -/
structure FunV (K : PySem.W.Frag) (x qual : Str) (st : Stmt) (f : Addr) (fd : FuncData) : Prop where
  ex : ∃ (oc : Value) (od : Option Addr) (dV kV doc pm : Value) (an : Option Addr) (cdv ct : Value) (osl : Array (Option Value)),
    fd = PySem.W.fnOf x qual (defArgs st) (defBody st) (defScope st) dV kV doc pm an cdv ct ∧ K.lookup f = some ⟨oc, od, .func fd, osl⟩ ∧ PySem.W.codeIn K cdv qual = true
  kp : PySem.W.keepIn K (.ref f) = true
theorem FunV.of {K : PySem.W.Frag} {x qual : Str} {st : Stmt} {f : Addr} {fd : FuncData} (F : Fun K x qual st f fd) : FunV K x qual st f fd := by
  obtain ⟨⟨oc, od, kV, doc, pm, an, cdv, ct, osl, h⟩, k⟩ := F
  exact ⟨⟨oc, od, .none, kV, doc, pm, an, cdv, ct, osl, h⟩, k⟩
theorem fnG_of {CX : CXT} {P : Program} {w : World} {K : PySem.W.Frag} {mg : Str → Option Value} {base : Heap} {k : Nat} {f : Addr} {x qual : Str} {st : Stmt} {fd : FuncData} {N ps : List Str} {sp : Sp} (F : FunV K x qual st f fd) (S : FnScope N ps (defScope st))
    (ln : ∀ vs H Qk E, sp vs H Qk E → vs.length = ps.length)
    (hb : ∀ (cdv : Value) (A : Around) (outer : List PySem.Env) (s : Shared) (H : Hp) (vs : List V) (Qk : VK) (E : XK), (A.deeper (envOfC qual (defScope st) s.heap.objs.size f cdv)).guards = some [] → Room k (A.deeper (envOfC qual (defScope st) s.heap.objs.size f cdv)) → sp vs H Qk E →
      ∃ t, PSs (cxOf CX P w K mg base N qual (defScope st) f cdv A outer s H E) (defBody st) t ∧ t { nx := fun _ H' => Qk .non H', rt := Qk } (L2.start N vs) H) :
    FnG P w K mg base CX (k + 1) f fd ps sp := by
  obtain ⟨oc, od, dV, kV, doc, pm, an, cdv, ct, osl, rfl, lk, hcd⟩ := F.ex
  refine ⟨ln, fun A outer s H args us vs Qk E hG hr e0 hbd rv hsp => ?_⟩
  have hlen := ln _ _ _ _ hsp
  have inK : K.In s.heap := e0.mod.kin.keeps fun b o e => (e0.bs b o e).1
  have inL : s.heap.NoLimit := e0.mod.nolimit.keeps fun b o e => (e0.bs b o e).1
  have par : ∀ y ∈ ps.zip us, (defScope st).names.lookup y.1 = some .local ∨ ((defScope st).names.lookup y.1 = some .cell ∧ ((cellsFrom (s.heap.objs.size + 1) (defScope st).names []).lookup y.1).isSome = true) := fun y hy =>
    (S.par y.1 (List.of_mem_zip (a := y.1) (b := y.2) hy).1).imp id fun q => ⟨q, PySem.W.cellsFrom_some _ _ _ (Or.inl q)⟩
  refine codeAny_call_function hr.depth (inK _ _ lk) rfl S.co S.gen rfl (PySem.W.codeRec_of inK hcd) (hbd _ _ _ _ (wpAny_newFunctionEnv_cells S.kind par fun env he s1 xc => ?_))
  cases he
  refine ⟨inL.keeps xc.toInCall.keep, codeAny_func ?_⟩
  obtain ⟨t, ht, hq⟩ := hb cdv A outer s H vs Qk E (by
    show (A.deeper _).guards = _
    simpa [Around.deeper] using hG) (hr.deeper _) hsp
  refine wpAny_mono (ht.run [] s1 (L2.start N vs) H _ (inv_start (CX := CX) (E := E) S hr.hd e0 hlen rv xc) hq) (fun fl s' hs => ?_) fun e s' hs => hs
  cases fl with
  | ret u => exact let ⟨v, _, H', J, r, q⟩ := hs; ⟨v, H', J.os, J.bare, J.base, J.hok, r, q⟩
  | next => exact let ⟨_, H', J, q⟩ := hs; ⟨.non, H', J.os, J.bare, J.base, J.hok, rfl, q⟩
  | brk => exact hs.elim fun _ ⟨_, _, q⟩ => q.elim
  | cont => exact hs.elim fun _ ⟨_, _, q⟩ => q.elim
section
variable {X : Cx} {k : Nat} {f : Addr} {fd : FuncData} {ps : List Str} {sp : Sp} {W : WX} {x : Str} {p pos : Pos} {e : Expr} {es : List Expr} {t : TA}
theorem run_fnG {pins : List (Addr × Obj)} {σ : L2.St} {H : Hp} {s : Shared} {Qk : VK} {us : List Value} {vs : List V} {args : Args} {zs : List Value} {ws : List V} (F : FnG X.prog X.w X.K X.mg X.base (L2.CX X.prog X.w) k f fd ps sp) (hG : X.A.guards = some []) (hr : Room k X.A)
    (hb : BindsTo s fd args (ps.zip zs)) (tk : Takes X W) (I : Inv X pins σ H s) (r : Vals ws zs) (h : sp ws H Qk (WE W σ)) : codeAny (model X.prog X.w) X.A (.call (.ref f) args) (fun r s' => match r with
      | .ok (.ret u) => EP X pins σ Qk u s'
      | .ok _ => False
      | .error e => X.xe e s') s := by
  refine codeAny_mono (F.go X.A X.stack s H args zs ws Qk (WE W σ) hG hr I.env0 hb r h) fun r s' hq => ?_
  rcases r with e | fl
  · exact passAt tk σ pins H s e s' I hq
  · cases fl <;> first
      | exact I.after hq
      | exact False.elim hq
/-- f(e, ..) -/
theorem pe_callG (F : FnG X.prog X.w X.K X.mg X.base (L2.CX X.prog X.w) k f fd ps sp) (hG : X.A.guards = some []) (hr : Room k X.A) (hg : Gl X x) (hm : X.mg x = some (.ref f)) (hk : PySem.W.keepIn X.K (.ref f) = true) (hb : Binds X.K fd ps []) (tk : Takes X W)
    (hdb : (x == ("__debug__" : Str)) = false) (ha : PA X es t) (he : ∀ e r, es = e :: r → starEach (e :: r) X.env = (false, eval e X.env) :: starEach r X.env ∧ (backTo pos (starEach r X.env)).any (·.1) = false) (h0 : es = [] → ∀ σ H Qk, t σ H Qk → Qk [] H) : PE X (.Call (.Name x p) es [] pos) (tCallS sp (WE W) t) := by
  refine ⟨fun pins s σ H Qk I h => wpAny_Call_Name_kw (ld_glob I hg hm ?_ hdb)⟩
  have core : ∀ {s1 : Shared} {us : List Value} {vs : List V} {H1 : Hp}, Inv X pins σ H1 s1 → Vals vs us → sp vs H1 Qk (WE W σ) → wpAny (model X.prog X.w) X.A (call (.ref f) us) (EP X pins σ Qk) X.xe s1 := fun {s1 us vs H1} I1 r q => by
    have hl : us.length = ps.length := by
      rw [← r.length]
      exact F.ln _ _ _ _ q
    have b := hb s1 us I1.kIn (by simpa using hl)
    simp only [List.append_nil] at b
    refine wpAny_call (codeAny_mono (run_fnG (us := us) (vs := vs) (Qk := Qk) (pins := pins) F hG hr b tk I1 r q) fun r s' hq => ?_)
    rcases r with e | fl
    · exact hq
    · cases fl <;> exact hq
  cases es with
  | nil =>
    exact PySem.W.callWith_K0 I.kIn hk (core (us := []) I .nil (h0 rfl σ H _ h))
  | cons e r =>
    obtain ⟨h1, h2⟩ := he e r rfl
    exact PySem.W.callWith_K (h₀ := X.base) I.ok.mod.kin hk (thn (ha.run pos pins s σ H _ I h) fun us s1 ⟨vs, H1, I1, r1, q⟩ => ⟨I1.kIn, core I1 r1 q⟩) h1 h2
end
theorem backTo_plain (pos : Pos) (env : PySem.Env) : ∀ es : List Expr, (∀ e ∈ es, isStar e = false) → (backTo pos (starEach es env)).any (·.1) = false
  | [], _ => rfl
  | e :: r, h => by
    have ih := backTo_plain pos env r fun x hx => h x (.tail _ hx)
    rw [star_of (h e (.head _)) r env]
    unfold backTo at ih ⊢
    simpa using ih
/-! ### the call as the small language has it -/
section
variable {X : Cx} {B : Bs} {C : Ctx} {T : Tbl} {n : Nat} {a : Addr} {fd : FuncData} {ps : List Str} {f : Str} {p pos : Pos} {es : List Expr} {ms : EL}
theorem call_ok {K : PySem.W.Frag} {mg : Str → Option Value} {W : WX} {σ : L2.St} {H H1 : Hp} {γ γ1 : Gm} {st st1 : ST} {vs : List V} {xs : List ER} {Qk : VK} (hK : B.K = K) (hM : B.mg = mg) (hW : B.W = W) (S : Sim B.K H γ σ st) (T1 : Tr H (Mu γ σ st) γ H1 (Mu γ1 σ st1) γ1) (S1 : Sim B.K H1 γ1 σ st1)
    (R : ErRs B.K H H1 γ1 σ st1 vs xs) (hc : C.call = callN T n) (h : (callO C f xs st1).wp (okK B σ H γ st (relE B.K σ H) Qk) (excK B σ H γ st)) : spF K mg T n f vs H1 Qk (WE W σ) := by
  subst hK hM hW
  unfold callO at h
  split at h
  · exact h.elim
  · rename_i as ha
    split at h
    · rename_i nd
      obtain ⟨γc, Sc, Hm⟩ := call_in S.lk T1 S1 R ha nd
      refine ⟨γc, as, st1.g, Sc, ?_⟩
      rw [hc] at h
      generalize callN T n f as st1.g = o at h ⊢
      cases o with
      | bad => exact h.elim
      | ret r as' g' =>
        intro v H' γ' T' S' R'
        cases r with
        | v q =>
          obtain ⟨S2, T2, M2⟩ := Hm.out as' g' H' γ' γ.lock T' S' (fun _ m => m) fun _ m => .inl m
          refine h v H' _ T2 S2 ?_
          have R' : Rep B.K H' _ γ' v q := R'
          exact Rep.tr (⟨fun _ _ e _ => e, fun _ m => absurd m (by simp), fun _ e => e, fun a m => .inl (M2 a m), ⟨[], by simp⟩⟩ : Tr H' (Mu γ' (vs.map some) (wor as' g')) ⟨γ'.obj, []⟩ H' _ _) (Rep.gam (γ := γ') (γ' := ⟨γ'.obj, []⟩) rfl R')
        | own d =>
          obtain ⟨a, rfl, h1, h2, o⟩ := R'
          obtain ⟨S2, T2, M2⟩ := Hm.out as' g' H' γ' (a :: γ.lock) T' S' (fun _ m => .tail _ m) fun b m => by
            rcases List.mem_cons.mp m with rfl | m
            · exact .inr ⟨h2, h1⟩
            · exact .inl m
          refine h _ H' _ T2 S2 ⟨a, rfl, T1.dom a h1, .head _, ?_⟩
          exact (OwnR.gam (γ := γ') (γ' := ⟨γ'.obj, []⟩) rfl o).tr' (⟨fun _ _ e _ => e, fun _ m => absurd m (by simp), fun _ e => e, fun a m => .inl (M2 a m), ⟨[], by simp⟩⟩ : Tr H' (Mu γ' (vs.map some) (wor as' g')) ⟨γ'.obj, []⟩ H' _ _) fun _ e => e
      | exc x as' g' =>
        intro cls d H' γ' T' S' R'
        obtain ⟨S2, T2, M2⟩ := Hm.out as' g' H' γ' γ.lock T' S' (fun _ m => m) fun _ m => .inl m
        refine h cls d H' _ T2 S2 ?_
        exact xcR_tr (⟨fun _ _ e _ => e, fun _ m => absurd m (by simp), fun _ e => e, fun a m => .inl (M2 a m), ⟨[], by simp⟩⟩ : Tr H' (Mu γ' (vs.map some) (wor as' g')) ⟨γ'.obj, []⟩ H' _ _) (fun _ _ e => e) R'
    · exact h.elim
theorem s_call (hK : B.K = X.K) (hM : B.mg = X.mg) (hc : C.call = callN T n) (F : FnG X.prog X.w X.K X.mg X.base (L2.CX X.prog X.w) n a fd ps (spF X.K X.mg T n f)) (hG : X.A.guards = some []) (hr : Room n X.A) (hg : Gl X f) (hm : X.mg f = some (.ref a)) (hk : PySem.W.keepIn X.K (.ref a) = true) (hb : Binds X.K fd ps []) (tk : Takes X B.W)
    (hdb : (f == ("__debug__" : Str)) = false) (ha : PA X es (tL B C ms)) (hs : ∀ e ∈ es, isStar e = false) (h0 : es = [] → ms = .nil) : PE X (.Call (.Name f p) es [] pos) (tE B C (.call f ms)) := by
  refine (pe_callG (W := B.W) F hG hr hg hm hk hb tk hdb ha (fun e r he => ?_) fun he σ H Qk h => ?_).mono fun σ H Qk ⟨γ, st, S, h⟩ => ?_
  · subst he
    exact ⟨star_of (hs e (.head _)) r X.env, backTo_plain pos X.env r fun x hx => hs x (.tail _ hx)⟩
  · rw [h0 he] at h
    obtain ⟨γ, st, S, h⟩ := h
    rw [evL] at h
    exact h [] H γ Tr.refl S .nil
  · rw [ev, wp_bind] at h
    exact ⟨γ, st, S, wp_mono h (fun xs st1 h vs H1 γ1 T1 S1 R1 => call_ok hK hM rfl S T1 S1 R1 hc h) fun _ _ e => e⟩
end
end Q
end
section
set_option maxHeartbeats 1000000
namespace Q
open PySem PySem.Spec PyProof.Rows
open L2 hiding cutV
section
variable {K : PySem.W.Frag} {Hs H0 H H' : Hp} {Ms M0 : Addr → Prop} {γs γ0 γ γ' : Gm} {σ σ' : L2.St} {st st' : ST} {v : V}
theorem Tr.seal' {M M' M'' : Addr → Prop} {γ1 γ'' : Gm} {H1 H'' : Hp} (T : Tr H M γ H1 M' γ1) (T' : Tr H1 M' ⟨γ1.obj, []⟩ H'' M'' γ'') (he : H'' = H1) (hk : ∀ a, a ∈ γ.lock → a ∈ γ''.lock) : Tr H M γ H'' M'' γ'' := by
  subst he
  refine ⟨T.keep, hk, T.dom, fun a m => ?_, ?_⟩
  · rcases T'.mu a m with z | z
    · exact T.mu a z
    · exact .inr (T.dom a z)
  · obtain ⟨e1, h1⟩ := T.gam
    obtain ⟨e2, h2⟩ := T'.gam
    exact ⟨e1 ++ e2, by rw [h2, show (⟨γ1.obj, []⟩ : Gm).obj = γ1.obj from rfl, h1, List.append_assoc]⟩
/-- a new object goes into a slot; other new ones stay held -/
theorem Sim.own1 (S : Sim K H γ σ st) {a : Addr} {d : LD} {lk : List Addr} (i : Nat) (hl : a ∈ γ.lock) (o : OwnR K H (Mu γ σ st) γ a d) (h1 : ∀ b, b ∈ lk → b ∈ γ.lock) (h2 : a ∉ lk) :
    Sim K H ⟨γ.obj, lk⟩ (σ.set i (some (.ref a))) (st.put i (some (.own d))) ∧ Tr H (Mu γ σ st) ⟨γ.obj, []⟩ H (Mu ⟨γ.obj, lk⟩ (σ.set i (some (.ref a))) (st.put i (some (.own d)))) ⟨γ.obj, lk⟩ := by
  have ma : Mu γ σ st a := .inl (.inr hl)
  have hm : ∀ b, (⟨γ.obj, lk⟩ : Gm).has b → γ.has b := fun b m => m.imp (fun z => z) fun z => h1 b z
  have slot : ∀ j s, envAt (st.put i (some (.own d))) j = some s → (j = i ∧ s = .own d ∧ i < σ.length) ∨ (j ≠ i ∧ envAt st j = some s) := fun j s e => by
    by_cases hj : j = i
    · subst hj
      by_cases hi : j < st.env.length
      · rw [envAt_same hi] at e
        cases e
        exact .inl ⟨rfl, rfl, by rw [← S.len]; exact hi⟩
      · rw [envAt_out hi] at e; cases e
    · rw [envAt_other hj] at e
      exact .inr ⟨hj, e⟩
  have T : Tr H (Mu γ σ st) ⟨γ.obj, []⟩ H (Mu ⟨γ.obj, lk⟩ (σ.set i (some (.ref a))) (st.put i (some (.own d)))) ⟨γ.obj, lk⟩ := ⟨fun _ _ e _ => e, fun _ m => absurd m (by simp), fun _ e => e, fun b m => .inl (by
    rcases m with m | ⟨j, e, q1, q⟩
    · exact .inl (hm b m)
    · rcases slot j _ q1 with ⟨rfl, _, hi⟩ | ⟨hj, z⟩
      · rw [get_set_same hi] at q
        cases q
        exact ma
      · rw [get_set_other hj] at q
        exact .inr ⟨j, e, z, q⟩), ⟨[], by simp⟩⟩
  refine ⟨⟨by rw [put_len, List.length_set]; exact S.len, fun j s e => ?_, fun j k d1 d2 b e1 e2 q1 q2 => ?_, fun b m => S.gl b (hm b m), fun j d1 b e q m => ?_, S.g0⟩, T⟩
  · rcases slot j s e with ⟨rfl, rfl, hi⟩ | ⟨hj, z⟩
    · exact ⟨.ref a, get_set_same hi, a, rfl, (OwnR.gam (γ := γ) (γ' := ⟨γ.obj, []⟩) rfl o).tr' T fun _ e => e⟩
    · obtain ⟨u, hu, r⟩ := S.sv j s z
      refine ⟨u, by rw [get_set_other hj]; exact hu, ?_⟩
      cases s with
      | v p => exact Rep.tr T (Rep.gam (γ := γ) (γ' := ⟨γ.obj, []⟩) rfl r)
      | own d1 =>
        obtain ⟨b, e1, r⟩ := r
        exact ⟨b, e1, (OwnR.gam (γ := γ) (γ' := ⟨γ.obj, []⟩) rfl r).tr' T fun _ e => e⟩
  · rcases slot j _ e1 with ⟨rfl, _, hi⟩ | ⟨hj, z1⟩
    · rcases slot k _ e2 with ⟨rfl, _, _⟩ | ⟨hk, z2⟩
      · rfl
      · rw [get_set_same hi] at q1
        cases q1
        rw [get_set_other hk] at q2
        exact absurd (.inr hl) (S.sep k d2 a z2 q2)
    · rcases slot k _ e2 with ⟨rfl, _, hi⟩ | ⟨hk, z2⟩
      · rw [get_set_same hi] at q2
        cases q2
        rw [get_set_other hj] at q1
        exact absurd (.inr hl) (S.sep j d1 a z1 q1)
      · rw [get_set_other hj] at q1
        rw [get_set_other hk] at q2
        exact S.inj j k d1 d2 b z1 z2 q1 q2
  · rcases slot j _ e with ⟨rfl, _, hi⟩ | ⟨hj, z⟩
    · rw [get_set_same hi] at q
      cases q
      rcases m with m | m
      · rw [show (⟨γ.obj, lk⟩ : Gm).obj = γ.obj from rfl, S.g0.1] at m; cases m
      · exact h2 m
    · rw [get_set_other hj] at q
      exact S.sep j d1 b z q (hm b m)
/-- new lists stay, the slots' own become values -/
def noSlot (es : List ER) : Prop := ∀ (k i : Nat), es[k]? ≠ some (ER.slot i)
theorem frzSl_ok : ∀ {es ys : List ER} {vs : List V} {st st' : ST}, Sim K H γ σ st → frzSl es st = some (ys, st') → ErRs K Hs H γ σ st vs es →
    Sim K H γ σ st' ∧ Tr H (Mu γ σ st) γ H (Mu γ σ st') γ ∧ ErRs K Hs H γ σ st' vs ys ∧ noSlot ys ∧ ∀ (k : Nat) (d : LD), ys[k]? = some (ER.own d) → es[k]? = some (ER.own d)
  | [], ys, _, st, st', S, h, r => by
    cases r
    cases h
    exact ⟨S, Tr.refl, .nil, fun k i e => by simp at e, fun k d e => by simp at e⟩
  | e :: es, ys, _, st, st', S, h, r => by
    cases r with
    | @cons v0 vs0 _ _ r rs hn =>
      -- the rest behind a head that is no slot
      have rest : ∀ {zs : List ER} {st2 : ST}, (∀ i, e ≠ .slot i) → frzSl es st = some (zs, st2) → ys = e :: zs → st' = st2 →
          Sim K H γ σ st' ∧ Tr H (Mu γ σ st) γ H (Mu γ σ st') γ ∧ ErRs K Hs H γ σ st' (v0 :: vs0) ys ∧ noSlot ys ∧ ∀ (k : Nat) (d : LD), ys[k]? = some (ER.own d) → (e :: es)[k]? = some (ER.own d) := by
        intro zs st2 hs e2 hy hst
        subst hy hst
        obtain ⟨S2, T2, R2, n2, o2⟩ := frzSl_ok S e2 rs
        refine ⟨S2, T2, .cons (r.tr T2) R2 fun hd k d' h => hn hd k d' (o2 k d' h), fun k i => ?_, fun k d => ?_⟩
        · cases k with
          | zero => simpa using fun z => hs i z
          | succ k => simpa using n2 k i
        · cases k with
          | zero => exact fun z => z
          | succ k => simpa using o2 k d
      cases e with
      | v p =>
        simp only [frzSl] at h
        split at h
        · rename_i zs st2 e2
          cases h
          exact rest (fun i => by simp) e2 rfl rfl
        · cases h
      | own d0 =>
        simp only [frzSl] at h
        split at h
        · rename_i zs st2 e2
          cases h
          exact rest (fun i => by simp) e2 rfl rfl
        · cases h
      | slot i =>
        simp only [frzSl] at h
        split at h
        · rename_i p st1 e1
          split at h
          · rename_i zs st2 e2
            cases h
            obtain ⟨S1, T1, R1⟩ := frzU S e1 (show ErU K H γ σ st _ (.slot i) from r)
            obtain ⟨S2, T2, R2, n2, o2⟩ := frzSl_ok S1 e2 (rs.tr T1)
            refine ⟨S2, T1.trans T2, .cons (Rep.tr T2 R1) R2 (fun ⟨d, hd⟩ => by cases hd), fun k j => ?_, fun k d => ?_⟩
            · cases k with
              | zero => simp
              | succ k => simpa using n2 k j
            · cases k with
              | zero => simp
              | succ k => simpa using o2 k d
          · cases h
        · cases h
def setAll : L2.St → List Nat → List V → L2.St
  | σ, i :: is, v :: vs => setAll (σ.set i (some v)) is vs
  | σ, _, _ => σ
theorem setAll_out {C : Ctx} : ∀ {is : List Nat} {vs : List V} {σ : L2.St}, (∀ i ∈ is, C.ro i = false) → Kp C σ (setAll σ is vs) ∧ (setAll σ is vs).length = σ.length
  | [], vs, σ, _ => by cases vs <;> exact ⟨Kp.refl, rfl⟩
  | i :: is, [], σ, _ => ⟨Kp.refl, rfl⟩
  | i :: is, v :: vs, σ, h => by
    obtain ⟨a, b⟩ := setAll_out (vs := vs) (σ := σ.set i (some v)) fun j hj => h j (.tail _ hj)
    refine ⟨Kp.trans (fun j hj => ?_) a, by rw [setAll, b, List.length_set]⟩
    rw [get_set_other fun e => ?_]
    subst e
    rw [h j (.head _)] at hj
    cases hj
theorem storeAll_ok {C : Ctx} : ∀ {is : List Nat} {es : List ER} {vs : List V} {γ : Gm} {σ : L2.St} {st st' : ST}, noSlot es → Sim K H γ σ st → (∀ a, a ∈ γs.lock → Hs a ≠ none) → (∀ a, a ∈ γs.lock → a ∈ γ.lock) → ErRs K Hs H γ σ st vs es → storeAll C is es st = some st' →
    ∃ γ', Sim K H γ' (setAll σ is vs) st' ∧ Tr H (Mu γ σ st) ⟨γ.obj, []⟩ H (Mu γ' (setAll σ is vs) st') γ' ∧ (∀ a, a ∈ γs.lock → a ∈ γ'.lock) ∧ ∀ i ∈ is, C.ro i = false
  | [], [], vs, γ, σ, st, st', ns, S, Ls, hk, R, h => by
    cases R
    cases h
    exact ⟨γ, S, Tr.refl.nolock, hk, fun i hi => by cases hi⟩
  | [], _ :: _, vs, γ, σ, st, st', ns, S, Ls, hk, R, h => by cases h
  | _ :: _, [], vs, γ, σ, st, st', ns, S, Ls, hk, R, h => by cases h
  | i :: is, e :: es, vs, γ, σ, st, st', ns, S, Ls, hk, R, h => by
    have ns' : noSlot es := fun k j => ns (k + 1) j
    have R0 := R
    cases R with
    | @cons v vs' _ _ r rs hn =>
    simp only [storeAll] at h
    split at h
    · rename_i st1 e1
      have hro : C.ro i = false := by
        unfold store at e1
        split at e1
        · cases e1
        · rename_i z
          simpa using z
      -- the others, behind the first store
      have go : ∀ {γ1 : Gm} {st1 : ST}, Sim K H γ1 (σ.set i (some v)) st1 → Tr H (Mu γ σ st) ⟨γ.obj, []⟩ H (Mu γ1 (σ.set i (some v)) st1) γ1 → (∀ a, a ∈ γs.lock → a ∈ γ1.lock) → (∀ (k : Nat) (d : LD) (a : Addr), es[k]? = some (ER.own d) → vs'[k]? = some (.ref a) → a ∈ γ1.lock) →
          storeAll C is es st1 = some st' → ∃ γ', Sim K H γ' (setAll σ (i :: is) (v :: vs')) st' ∧ Tr H (Mu γ σ st) ⟨γ.obj, []⟩ H (Mu γ' (setAll σ (i :: is) (v :: vs')) st') γ' ∧ (∀ a, a ∈ γs.lock → a ∈ γ'.lock) ∧ ∀ j ∈ i :: is, C.ro j = false := by
        intro γ1 st1 S1 T1 hk1 hl h
        have R1 : ErRs K Hs H γ1 (σ.set i (some v)) st1 vs' es := by
          clear hn h R0
          have key : ∀ {vs : List V} {es : List ER}, ErRs K Hs H γ σ st vs es → noSlot es → (∀ (k : Nat) (d : LD) (a : Addr), es[k]? = some (ER.own d) → vs[k]? = some (.ref a) → a ∈ γ1.lock) → ErRs K Hs H γ1 (σ.set i (some v)) st1 vs es := by
            intro vs es q
            induction q with
            | nil => exact fun _ _ => .nil
            | @cons u us x xs a b h ih =>
              intro n2 l2
              refine .cons ?_ (ih (fun k j => n2 (k + 1) j) fun k d a e q => l2 (k + 1) d a e q) h
              cases x with
              | v p => exact Rep.tr T1 (Rep.gam (γ := γ) (γ' := ⟨γ.obj, []⟩) rfl a)
              | own d =>
                obtain ⟨b, h1, h2, h3, h4⟩ := a
                exact ⟨b, h1, h2, l2 0 d b rfl (by rw [h1]; rfl), (OwnR.gam (γ := γ) (γ' := ⟨γ.obj, []⟩) rfl h4).tr' T1 fun _ e => e⟩
              | slot j => exact absurd rfl (n2 0 j)
          exact key rs ns' hl
        obtain ⟨γ2, S2, T2, hk2, ro2⟩ := storeAll_ok ns' S1 Ls hk1 R1 h
        refine ⟨γ2, S2, ?_, hk2, fun j hj => ?_⟩
        · refine ⟨fun a o e n => ?_, fun _ m => absurd m (by simp), fun a e => T1.dom a (T2.dom a e), fun a m => ?_, ?_⟩
          · exact e
          · rcases T2.mu a m with z | z
            · exact T1.mu a z
            · exact .inr z
          · obtain ⟨x1, h1⟩ := T1.gam
            obtain ⟨x2, h2⟩ := T2.gam
            exact ⟨x1 ++ x2, by rw [h2, show (⟨γ1.obj, []⟩ : Gm).obj = γ1.obj from rfl, h1, List.append_assoc]⟩
        · rcases List.mem_cons.mp hj with rfl | hj
          · exact hro
          · exact ro2 j hj
      unfold store at e1
      rw [if_neg (by rw [hro]; decide)] at e1
      cases e with
      | v p =>
        cases e1
        obtain ⟨S1, T1⟩ := S.store i r
        exact go S1 T1.nolock hk (fun k d a e q => by
          obtain ⟨b, h1, _, h3, _⟩ := rs.own e
          rw [q] at h1
          cases h1
          exact h3) h
      | own d =>
        cases e1
        obtain ⟨a, ha, h0, hl, o⟩ := r
        subst ha
        classical
        obtain ⟨S1, T1⟩ := S.own1 (lk := γ.lock.filter fun b => decide (b ≠ a)) i hl o (fun b m => (List.mem_filter.mp m).1) fun m => by simp at m
        refine go S1 T1 (fun b m => by
          simp only [List.mem_filter, decide_eq_true_eq]
          refine ⟨hk b m, fun e => ?_⟩
          subst e
          exact Ls _ m h0) (fun k d' b e q => by
          obtain ⟨c, h1, _, h3, _⟩ := rs.own e
          rw [q] at h1
          cases h1
          simp only [List.mem_filter, decide_eq_true_eq]
          refine ⟨h3, fun e' => ?_⟩
          subst e'
          exact hn ⟨d, rfl⟩ k d' e q) h
      | slot j => exact absurd rfl (ns 0 j)
    · cases h
end
end Q
end
section
set_option maxHeartbeats 1000000
namespace Q
open PySem PySem.Spec PyProof.Rows
open L2 hiding cutV
section
variable {B : Bs} {C : Ctx} {σ : L2.St} {H : Hp} {γ : Gm} {st : ST} {D : Ends}
/-- a statement that begins with an expression's value -/
theorem so_wp {α : Type} {o : Out α} {f : α → ST → SO} (h : sK B C σ H γ st D (o.so f)) : o.wp (fun a st' => sK B C σ H γ st D (f a st')) (excK B σ H γ st) := by
  cases o with
  | ok a st' => exact h
  | exc x st' => exact fun cls d H' γ' T S R => h cls d σ H' γ' ⟨T, S, Kp.refl⟩ R
  | bad => exact h.elim
theorem so_from {α : Type} {σ1 : L2.St} {H1 : Hp} {γ1 : Gm} {st1 : ST} {o : Out α} {f : α → ST → SO} (P : Stp B C σ H γ st σ1 H1 γ1 st1) (h : sK B C σ H γ st D (o.so f)) : o.wp (fun a st' => sK B C σ H γ st D (f a st')) (excK B σ1 H1 γ1 st1) := by
  cases o with
  | ok a st' => exact h
  | exc x st' => exact fun cls d H' γ' T S R => h cls d σ1 H' γ' (P.trans ⟨T, S, Kp.refl⟩) R
  | bad => exact h.elim
theorem Kp.set {i : Nat} {o : Option V} (h : C.ro i = false) : Kp C σ (σ.set i o) := fun j hj => get_set_other fun e => by
  subst e
  rw [h] at hj
  cases hj
theorem store_ro {i : Nat} {x : ER} {st st' : ST} (h : store C i x st = some st') : C.ro i = false := by
  unfold store at h
  split at h
  · cases h
  · rename_i z
    simpa using z
theorem store_stp {H1 : Hp} {γ1 : Gm} {st1 st2 : ST} {i : Nat} {x : ER} {v : V} (S : Sim B.K H γ σ st) (T1 : Tr H (Mu γ σ st) γ H1 (Mu γ1 σ st1) γ1) (S1 : Sim B.K H1 γ1 σ st1) (R1 : ErR B.K H H1 γ1 σ st1 v x) (h : store C i x st1 = some st2) :
    ∃ γ2, Stp B C σ H γ st (σ.set i (some v)) H1 γ2 st2 := by
  have ro := store_ro h
  unfold store at h
  rw [if_neg (by rw [ro]; decide)] at h
  cases x with
  | v p =>
    cases h
    obtain ⟨S2, T2⟩ := S1.store i R1
    exact ⟨_, T1.trans T2, S2, Kp.set ro⟩
  | own d =>
    cases h
    obtain ⟨S2, T2⟩ := S1.storeOwn T1 S.lk i R1
    exact ⟨_, T2, S2, Kp.set ro⟩
  | slot j =>
    dsimp only at h
    split at h
    · rename_i p st3 hf
      cases h
      obtain ⟨S2, T2, R2⟩ := frz_ok S.lk T1 S1 hf R1
      obtain ⟨S3, T3⟩ := S2.store i R2
      exact ⟨_, T2.trans T3, S3, Kp.set ro⟩
    · cases h
theorem asg_imp {i : Nat} {m : E} (h : tS B C (.asg (.v i) m) D σ H) : tAsg (tE B C m) (gName i) D σ H := by
  obtain ⟨γ, st, S, h⟩ := h
  rw [ex] at h
  refine ⟨γ, st, S, wp_mono (so_wp h) (fun x st1 h v H1 γ1 T1 S1 R1 => ?_) fun _ _ e => e⟩
  cases q : store C i x st1 with
  | none => rw [q] at h; exact h.elim
  | some st2 =>
    rw [q] at h
    obtain ⟨γ2, P⟩ := store_stp S T1 S1 R1 q
    exact h _ _ γ2 P
theorem tup_imp {is : List Nat} {m : E} (h : tS B C (.asg (.t is) m) D σ H) : tAsg (tE B C m) (gTg B.K (.t is)) D σ H := by
  obtain ⟨γ, st, S, h⟩ := h
  rw [ex] at h
  have h := so_wp h
  rw [frzO, wp_bind] at h
  refine ⟨γ, st, S, wp_mono h (fun x st1 h v H1 γ1 T1 S1 R1 => ?_) fun _ _ e => e⟩
  split at h
  · rename_i p st2 hf
    obtain ⟨S2, T2, R2⟩ := frz_ok S.lk T1 S1 hf R1
    cases q : stTg C (.t is) p st2 with
    | none => rw [q] at h; exact h.elim
    | some st3 =>
      rw [q] at h
      refine putTo_ok (ws := is) (fun i hi => hi) S2 R2 (stTg_put q) fun σ' el ew S3 T3 => ?_
      refine h σ' H1 _ ⟨T2.trans T3, S3, fun j hj => ?_⟩
      have hn : j ∉ is := fun m => by
        unfold stTg at q
        dsimp only at q
        split at q
        · cases q
        · rename_i z
          exact z (List.any_eq_true.mpr ⟨j, m, hj⟩)
      rw [← wipe_out (σ := σ') hn, ← wipe_out (σ := σ) hn, ew]
  · exact h.elim
theorem par_imp {is : List Nat} {ms : EL} {Qf : L2.St → Hp → Prop} (h : tS B C (.par is ms) D σ H) : tL B C ms σ H fun vs H1 => vs.length = is.length ∧ D.nx (setAll σ is vs) H1 := by
  obtain ⟨γ, st, S, h⟩ := h
  rw [ex] at h
  refine ⟨γ, st, S, wp_mono (so_wp h) (fun xs st1 h vs H1 γ1 T1 S1 R1 => ?_) fun _ _ e => e⟩
  split at h
  · rename_i ys st2 hf
    obtain ⟨S2, T2, R2, ns, _⟩ := frzSl_ok S1 hf R1
    cases q : storeAll C is ys st2 with
    | none => rw [q] at h; exact h.elim
    | some st3 =>
      rw [q] at h
      obtain ⟨γ3, S3, T3, hk, ro⟩ := storeAll_ok ns S2 S.lk (fun a m => T2.lock a (T1.lock a m)) R2 q
      have hl : ∀ {is : List Nat} {es : List ER} {st st' : ST}, storeAll C is es st = some st' → es.length = is.length := by
        intro is
        induction is with
        | nil => intro es st st' e; cases es with
          | nil => rfl
          | cons a b => cases e
        | cons i r ih => intro es st st' e; cases es with
          | nil => cases e
          | cons a b =>
            simp only [storeAll] at e
            split at e
            · rw [List.length_cons, List.length_cons, ih e]
            · cases e
      exact ⟨by rw [R2.len, hl q], h _ _ γ3 ⟨(T1.trans T2).seal' T3 rfl hk, S3, (setAll_out ro).1⟩⟩
  · exact h.elim
end
section
variable {X : Cx} {B : Bs} {C : Ctx} {a b d e : Expr} {ma mb md m : E} {pos py : Pos} {y : Str} {i : Nat}
theorem s_asgv (hN : X.N.Nodup) (hi : X.N[i]? = some y) (hx : Loc X.env.scope y) (hf : X.fn y = true ∨ X.env.scope.names.lookup y = some .local) (hs : swapsWith e (some (.Name y py)) pos.line X.env = pure false) (he : PE X e (tE B C m)) : PS X (.Assign [.Name y py] e pos) (tS B C (.asg (.v i) m)) :=
  (ps_set hN hi hx he hs hf).mono fun _ _ _ h => asg_imp h
theorem s_asgt {es : List Expr} {is : List Nat} {k : Nat} (hB : B.K = X.K) (hc : X.calm = true) (he : PE X e (tE B C m)) (hg : PGs X es (gNames is)) (hn : (assignEach es X.env).length = is.length) (hst : (assignEach es X.env).findIdx? (·.1) = none) (hs : swapsWithSole [.Tuple es k py] e pos.line X.env = pure false) (hw : swappedStores [.Tuple es k py] e X.env = pure none) (h1 : (assignEach [.Tuple es k py] X.env).map (·.2) = [assign (.Tuple es k py) X.env]) :
    PS X (.Assign [.Tuple es k py] e pos) (tS B C (.asg (.t is) m)) :=
  (ps_asg he (pg_tup hc hg hn hst) hs hw h1).mono fun _ _ _ h => by rw [← hB]; exact tup_imp h
theorem s_par2 {j : Nat} {z : Str} {ms : EL} {pz pt pt2 : Pos} {kt k2 : Nat} (hc : X.calm = true) (hN : X.N.Nodup) (hi : X.N[i]? = some y) (hj : X.N[j]? = some z) (hij : i ≠ j) (hy : X.env.scope.names.lookup y = some .local) (hz : X.env.scope.names.lookup z = some .local) (ha : PA X [a, b] (tL B C ms))
    (hw : swappedStores [.Tuple [.Name y py, .Name z pz] kt pt] (.Tuple [a, b] k2 pt2) X.env = pure (some [y, z])) (hs : swapsWithSole [.Tuple [.Name y py, .Name z pz] kt pt] (.Tuple [a, b] k2 pt2) pos.line X.env = pure false) :
    PS X (.Assign [.Tuple [.Name y py, .Name z pz] kt pt] (.Tuple [a, b] k2 pt2) pos) (tS B C (.par [i, j] ms)) :=
  (ps_par hc hN hi hj hij hy hz ha hw hs).mono fun D σ H h => by
    obtain ⟨γ, st, S, h⟩ := par_imp (Qf := D.nx) h
    refine ⟨γ, st, S, wp_mono h (fun xs st1 h vs H1 γ1 T1 S1 R1 => ?_) fun _ _ e => e⟩
    obtain ⟨hl, q⟩ := h vs H1 γ1 T1 S1 R1
    match vs, hl with
    | [u, w], _ => exact ⟨u, w, rfl, q⟩
theorem s_par3 {j l : Nat} {z w : Str} {ms : EL} {pz pw pt pt2 : Pos} {kt k2 : Nat} (hc : X.calm = true) (hN : X.N.Nodup) (hi : X.N[i]? = some y) (hj : X.N[j]? = some z) (hk : X.N[l]? = some w) (hij : i ≠ j) (hil : i ≠ l) (hjl : j ≠ l) (hy : X.env.scope.names.lookup y = some .local) (hz : X.env.scope.names.lookup z = some .local) (hww : X.env.scope.names.lookup w = some .local)
    (ha : PA X [a, b, d] (tL B C ms)) (hw : swappedStores [.Tuple [.Name y py, .Name z pz, .Name w pw] kt pt] (.Tuple [a, b, d] k2 pt2) X.env = pure (some [y, z, w])) (hs : swapsWithSole [.Tuple [.Name y py, .Name z pz, .Name w pw] kt pt] (.Tuple [a, b, d] k2 pt2) pos.line X.env = pure false) :
    PS X (.Assign [.Tuple [.Name y py, .Name z pz, .Name w pw] kt pt] (.Tuple [a, b, d] k2 pt2) pos) (tS B C (.par [i, j, l] ms)) :=
  (ps_par3 hc hN hi hj hk hij hil hjl hy hz hww ha hw hs).mono fun D σ H h => by
    obtain ⟨γ, st, S, h⟩ := par_imp (Qf := D.nx) h
    refine ⟨γ, st, S, wp_mono h (fun xs st1 h vs H1 γ1 T1 S1 R1 => ?_) fun _ _ e => e⟩
    obtain ⟨hl, q⟩ := h vs H1 γ1 T1 S1 R1
    match vs, hl with
    | [u, w, t], _ => exact ⟨u, w, t, rfl, q⟩
theorem s_aug (hB : B.K = X.K) (hN : X.N.Nodup) (hi : X.N[i]? = some y) (hx : Loc X.env.scope y) (hf : X.fn y = true ∨ X.env.scope.names.lookup y = some .local) (he : PE X e (tE B C m)) : PS X (.AugAssign (.Name y py) .Add e pos) (tS B C (.aug i .Add m)) := by
  refine (ps_aug hN hi hx he ip_add hf).mono fun D σ H ⟨γ, st, S, h⟩ => ?_
  rw [ex] at h
  split at h
  · rename_i n q
    obtain ⟨v, hv, r⟩ := S.sv i _ q
    have r : Rep B.K H (Mu γ σ st) γ v (.int n) := r
    cases r
    refine ⟨_, hv, γ, st, S, wp_mono (so_wp h) (fun x st1 h v1 H1 γ1 T1 S1 R1 => ?_) fun _ _ e => e⟩
    have R1' : ErR B.K H H1 γ1 σ st1 v1 x := R1
    have Dv := R1'.dv S1
    split at h
    · exact h.elim
    · rename_i ro
      generalize x.get st1 = dv at h Dv
      cases dv with
      | v p =>
        cases p with
        | int k =>
          cases Dv
          obtain ⟨S2, T2⟩ := S1.store (v := .int (n + k)) (p := .int (n + k)) i (Rep.int (n + k))
          exact ⟨n, k, rfl, rfl, h _ _ γ1 ⟨T1.trans T2, S2, Kp.set (by simpa using ro)⟩⟩
        | _ => exact h.elim
      | _ => exact h.elim
  · exact h.elim
theorem s_ex (hs : swapsWith e none pos.line X.env = pure false) (he : PE X e (tE B C m)) : PS X (.Expr e pos) (tS B C (.ex m)) := by
  refine (ps_expr he hs).mono fun D σ H ⟨γ, st, S, h⟩ => ?_
  rw [ex] at h
  exact ⟨γ, st, S, wp_mono (so_wp h) (fun x st1 h v H1 γ1 T1 S1 R1 => h σ H1 γ1 ⟨T1, S1, Kp.refl⟩) fun _ _ e => e⟩
theorem s_ret (he : PE X e (tE B C m)) : PS X (.Return (some e) pos) (tS B C (.ret m)) := by
  refine (ps_ret he).mono fun D σ H ⟨γ, st, S, h⟩ => ?_
  rw [ex] at h
  exact ⟨γ, st, S, wp_mono (so_wp h) (fun x st1 h v H1 γ1 T1 S1 R1 => h v σ H1 γ1 ⟨T1, S1, Kp.refl⟩ R1) fun _ _ e => e⟩
theorem s_retn : PS X (.Return none pos) (tS B C .retn) := by
  refine PS.mono ps_retN fun D σ H ⟨γ, st, S, h⟩ => ?_
  rw [ex] at h
  exact h .non σ H γ ⟨Tr.refl, S, Kp.refl⟩ Rep.non
theorem s_pass : PS X (.Pass pos) (tS B C .pass) := by
  refine PS.mono ps_pass fun D σ H ⟨γ, st, S, h⟩ => ?_
  rw [ex] at h
  exact h σ H γ ⟨Tr.refl, S, Kp.refl⟩
theorem s_doc {x : Str} {j : Nat} {p : Pos} : PS X (.Expr (.Constant (.str x) j p) pos) (tS B C .pass) := by
  refine PS.mono ps_doc fun D σ H ⟨γ, st, S, h⟩ => ?_
  rw [ex] at h
  exact h σ H γ ⟨Tr.refl, S, Kp.refl⟩
theorem s_brk : PS X (.Break pos) (tS B C .brk) := by
  refine PS.mono ps_break fun D σ H ⟨γ, st, S, h⟩ => ?_
  rw [ex] at h
  exact h σ H γ ⟨Tr.refl, S, Kp.refl⟩
theorem s_cnt : PS X (.Continue pos) (tS B C .cnt) := by
  refine PS.mono ps_continue fun D σ H ⟨γ, st, S, h⟩ => ?_
  rw [ex] at h
  exact h σ H γ ⟨Tr.refl, S, Kp.refl⟩
theorem s_if {mt : T} {p q : List Stmt} {mp mq : SL} (ht : PT X a (tT B C mt)) (hp : PSs X p (tSs B C mp)) (hq : PSs X q (tSs B C mq)) : PS X (.If a p q pos) (tS B C (.ife mt mp mq)) := by
  refine (ps_if ht hp hq).mono fun D σ H ⟨γ, st, S, h⟩ => ?_
  rw [ex] at h
  refine ⟨γ, st, S, wp_mono (so_wp h) (fun k st1 h k' H1 γ1 T1 S1 R1 => ?_) fun _ _ e => e⟩
  have R1 : k' = k := R1
  subst R1
  cases k' with
  | true => exact L2.iteT ⟨γ1, st1, S1, h.from ⟨T1, S1, Kp.refl⟩⟩
  | false => exact L2.iteF ⟨γ1, st1, S1, h.from ⟨T1, S1, Kp.refl⟩⟩
theorem s_snil : PSs X [] (tSs B C .nil) := by
  refine PSs.mono pss_nil fun D σ H ⟨γ, st, S, h⟩ => ?_
  rw [exs] at h
  exact h σ H γ ⟨Tr.refl, S, Kp.refl⟩
theorem s_scons {s : Stmt} {r : List Stmt} {ms : S} {mr : SL} (h1 : PS X s (tS B C ms)) (h2 : PSs X r (tSs B C mr)) : PSs X (s :: r) (tSs B C (.cons ms mr)) := by
  refine PSs.mono (pss_cons h1 h2) fun D σ H ⟨γ, st, S, h⟩ => ⟨γ, st, S, ?_⟩
  rw [exs] at h
  generalize ex C ms st = o at h ⊢
  cases o with
  | nx st' =>
    intro σ' H' γ' P
    exact ⟨γ', st', P.sim, sK.from (D := D) h P⟩
  | ret r st' => exact h
  | bk st' => exact h
  | ct st' => exact h
  | exc x st' => exact h
  | bad => exact h.elim
/-! loops -/
theorem turn_ends {σ σ0 : L2.St} {H H0 : Hp} {γ γ0 : Gm} {st st0 : ST} {D : Ends} {N : L2.St → Hp → Prop} {f : ST → SO} {o : SO} (P0 : Stp B C σ0 H0 γ0 st0 σ H γ st) (h : sK B C σ0 H0 γ0 st0 D (o.turn f))
    (hN : ∀ st' σ' H' γ', Stp B C σ H γ st σ' H' γ' st' → sK B C σ0 H0 γ0 st0 D (f st') → N σ' H') : sK B C σ H γ st { D with nx := N, ct := N, bk := D.nx } o := by
  cases o with
  | nx st' => exact fun σ' H' γ' P => hN st' σ' H' γ' P h
  | ct st' => exact fun σ' H' γ' P => hN st' σ' H' γ' P h
  | bk st' => exact fun σ' H' γ' P => h σ' H' γ' (P0.trans P)
  | ret r st' => exact fun v σ' H' γ' P R => h v σ' H' γ' (P0.trans P) (R.old P0.tr.dom)
  | exc x st' => exact fun cls d σ' H' γ' P R => h cls d σ' H' γ' (P0.trans P) R
  | bad => exact h.elim
theorem s_for {tg it : Expr} {body : List Stmt} {mt : Tg} {mi : IT} {mb : SL} (hp : PassesOwn (model X.prog X.w) X.A X.env X.xe) (hc : X.calm = true) (hi : PI X tg it (tI B C mi)) (hg : PG X tg (gTg B.K mt)) (hb : PSs X body (tSs B C mb)) (hs : ∀ x, foldedSetIterable it X.env x = pure x) :
    PS X (.For tg it body [] pos) (tS B C (.for_ mt mi mb)) := by
  refine (ps_for hp hc hi hg hb hs).mono fun D σ H ⟨γ, st, S, h⟩ => ?_
  rw [ex] at h
  refine ⟨γ, st, S, wp_mono (so_wp h) (fun xs st1 h J H1 γ1 T1 S1 R1 => ?_) fun _ _ e => e⟩
  refine ⟨fun i m σ' H' => m = xs.length - i ∧ i ≤ xs.length ∧ ∃ γ' st', Stp B C σ H γ st σ' H' γ' st' ∧ Tr H1 (Mu γ1 σ st1) ⟨γ1.obj, []⟩ H' (Mu γ' σ' st') γ' ∧ sK B C σ H γ st D (forO (fun x st => (nxO (stTg C mt x st)).seq fun st => exs C mb st) (xs.drop i) st'),
    ⟨xs.length, rfl, Nat.zero_le _, γ1, st1, ⟨T1, S1, Kp.refl⟩, Tr.refl.nolock, h⟩, ?_⟩
  rintro i m σ2 H2 ⟨rfl, hi, γ2, st2, P2, T2, w⟩
  obtain ⟨stop, R⟩ := R1 H2 _ γ2 T2
  by_cases hlt : i < xs.length
  · have hx : xs[i]? = some xs[i] := by simp [hlt]
    rw [List.drop_eq_getElem_cons hlt] at w
    generalize xs[i] = x at hx w
    obtain ⟨go, R⟩ := R i x hx
    refine .inr ⟨go, fun σ' H' => ∃ γ' st', Stp B C σ H γ st σ' H' γ' st' ∧ Tr H1 (Mu γ1 σ st1) ⟨γ1.obj, []⟩ H' (Mu γ' σ' st') γ' ∧ sK B C σ H γ st D (forO (fun x st => (nxO (stTg C mt x st)).seq fun st => exs C mb st) (xs.drop (i + 1)) st'),
      fun σ' H' ⟨γ', st', n⟩ => ⟨_, by omega, rfl, hlt, γ', st', n⟩, fun v H' yl => ?_⟩
    obtain ⟨rfl, rv⟩ := R v H' yl
    rw [forO] at w
    cases q : stTg C mt x st2 with
    | none => rw [q] at w; exact w.elim
    | some st3 =>
      rw [q] at w
      refine putTo_ok (ws := mt.slots) (fun i hi => hi) P2.sim rv (stTg_put q) fun σ' el ew S3 T3 => ?_
      have ro : ∀ j, C.ro j = true → j ∉ mt.slots := fun j hj m => by
        unfold stTg at q
        cases mt with
        | v k =>
          dsimp only at q
          split at q
          · cases q
          · rename_i z
            have m : j ∈ [k] := m
            simp at m
            subst m
            exact z hj
        | t ks =>
          dsimp only at q
          split at q
          · cases q
          · rename_i z
            exact z (List.any_eq_true.mpr ⟨j, m, hj⟩)
      have P3 : Stp B C σ2 H' γ2 st2 σ' H' γ2 st3 := ⟨T3, S3, fun j hj => by rw [← wipe_out (σ := σ') (ro j hj), ← wipe_out (σ := σ2) (ro j hj), ew]⟩
      refine ⟨γ2, st3, S3, turn_ends (P2.trans P3) w fun st' σ4 H4 γ4 P4 w' => ?_⟩
      exact ⟨γ4, st', (P2.trans P3).trans P4, T2.trans (P3.tr.trans P4.tr), w'⟩
  · have e : i = xs.length := by omega
    subst e
    rw [List.drop_length] at w
    exact .inl ⟨stop _ (Nat.le_refl _), w σ2 H2 γ2 P2⟩
theorem s_whl {t : Expr} {body : List Stmt} {mt : T} {mb : SL} (hp : PassesOwn (model X.prog X.w) X.A X.env X.xe) (ht : PT X t (tT B C mt)) (hb : PSs X body (tSs B C mb)) : PS X (.While t body [] pos) (tS B C (.whl mt mb)) := by
  refine (ps_while hp ht hb).mono fun D σ H ⟨γ, st, S, h⟩ => ?_
  rw [ex] at h
  refine ⟨fun m σ' H' => ∃ γ' st', Stp B C σ H γ st σ' H' γ' st' ∧ sK B C σ H γ st D (whlO (fun st => tst C mt st) (fun st => exs C mb st) m st'), ⟨C.fuel, γ, st, ⟨Tr.refl, S, Kp.refl⟩, h⟩, ?_⟩
  rintro m σ2 H2 ⟨γ2, st2, P2, w⟩
  cases m with
  | zero => exact w.elim
  | succ m =>
    rw [whlO] at w
    refine ⟨γ2, st2, P2.sim, wp_mono (so_from P2 w) (fun k st3 w k' H3 γ3 T3 S3 R3 => ?_) fun x st3 e => e⟩
    have R3 : k' = k := R3
    subst R3
    have P3 : Stp B C σ2 H2 γ2 st2 σ2 H3 γ3 st3 := ⟨T3, S3, Kp.refl⟩
    cases k' with
    | false => exact L2.iteF (w σ2 H3 γ3 (P2.trans P3))
    | true =>
      refine L2.iteT ⟨fun σ' H' => ∃ γ' st', Stp B C σ H γ st σ' H' γ' st' ∧ sK B C σ H γ st D (whlO (fun st => tst C mt st) (fun st => exs C mb st) m st'), fun σ' H' ⟨γ', st', n⟩ => ⟨m, Nat.lt_succ_self m, γ', st', n⟩, ?_⟩
      exact ⟨γ3, st3, S3, turn_ends (P2.trans P3) w fun st' σ4 H4 γ4 P4 w' => ⟨γ4, st', (P2.trans P3).trans P4, w'⟩⟩
end
end Q
end
section
set_option maxHeartbeats 1000000
namespace Q
open PySem PySem.Spec PyProof.Rows
open L2 hiding cutV
/-! ### calls with keywords -/
section
variable {K : PySem.W.Frag} {H0 H H1 H2 : Hp} {γ γ1 γ2 : Gm} {σ : L2.St} {st st1 st2 : ST}
theorem errs_of : ∀ {vs : List V} {es : List ER}, vs.length = es.length → (∀ (k : Nat) (v : V) (e : ER), vs[k]? = some v → es[k]? = some e → ErR K H0 H γ σ st v e) →
    (∀ (j k : Nat) (d d' : LD) (v : V), es[j]? = some (ER.own d) → es[k]? = some (ER.own d') → vs[j]? = some v → vs[k]? = some v → j = k) → ErRs K H0 H γ σ st vs es
  | [], [], _, _, _ => .nil
  | [], _ :: _, h, _, _ => by cases h
  | _ :: _, [], h, _, _ => by cases h
  | v :: vs, e :: es, hl, hp, ha => by
    refine .cons (hp 0 v e rfl rfl) (errs_of (by simpa using hl) (fun k w x h1 h2 => hp (k + 1) w x (by simpa using h1) (by simpa using h2)) fun j k d d' w h1 h2 h3 h4 => ?_) fun ⟨d, hd⟩ k d' h1 h2 => ?_
    · have := ha (j + 1) (k + 1) d d' w (by simpa using h1) (by simpa using h2) (by simpa using h3) (by simpa using h4)
      omega
    · subst hd
      have := ha 0 (k + 1) d d' v rfl (by simpa using h1) rfl (by simpa using h2)
      omega
theorem errs_app (T : Tr H1 (Mu γ1 σ st1) γ1 H2 (Mu γ2 σ st2) γ2) (hd : ∀ a, H1 a = none → H0 a = none) {zs : List V} {ys : List ER} (R2 : ErRs K H1 H2 γ2 σ st2 zs ys) : ∀ {vs : List V} {xs : List ER}, ErRs K H0 H1 γ1 σ st1 vs xs → ErRs K H0 H2 γ2 σ st2 (vs ++ zs) (xs ++ ys) := by
  intro vs xs R1
  induction R1 with
  | nil => exact R2.old hd
  | @cons v vs e es a b h ih =>
    refine .cons (a.tr T) ih fun ho k d' h1 h2 => ?_
    have h1 : (es ++ ys)[k]? = some (ER.own d') := h1
    have h2 : (vs ++ zs)[k]? = some v := h2
    by_cases hk : k < es.length
    · rw [List.getElem?_append_left hk] at h1
      rw [List.getElem?_append_left (by rw [b.len]; exact hk)] at h2
      exact h ho k d' h1 h2
    · rw [List.getElem?_append_right (by omega)] at h1
      rw [List.getElem?_append_right (by rw [b.len]; omega), b.len] at h2
      exact errs_new a R2 ho _ d' h1 h2
/-- a default of a parameter -/
def DfR (p : PV) (z : Value) : Prop := ∃ v, RelV v z ∧ ∀ (K : PySem.W.Frag) (H : Hp) (M : Addr → Prop) (γ : Gm), Rep K H M γ v p
/-- what the parameters get -/
inductive Picks (us : List Value) : List CA → List Value → Prop
  | nil : Picks us [] []
  | a {i : Nat} {z : Value} {r : List CA} {zs : List Value} : us[i]? = some z → Picks us r zs → Picks us (.a i :: r) (z :: zs)
  | d {p : PV} {z : Value} {r : List CA} {zs : List Value} : DfR p z → Picks us r zs → Picks us (.d p :: r) (z :: zs)
structure PBinds (K : PySem.W.Frag) (fd : FuncData) (ps : List Str) (n : Nat) (ks : List Str) (pm : List CA) : Prop where
  to : ∀ (s : Shared) (us ws : List Value), K.In s.heap → us.length = n → ws.length = ks.length → ∃ zs, BindsTo s fd ⟨us, ks.zip ws⟩ (ps.zip zs) ∧ Picks (us ++ ws) pm zs
theorem pick_len : ∀ {pm : List CA} {es ys : List ER}, pickA es pm = some ys → ys.length = pm.length
  | [], es, ys, h => by cases h; rfl
  | .a i :: r, es, ys, h => by
    simp only [pickA] at h
    split at h
    · rename_i e1 e2
      cases h
      rw [List.length_cons, List.length_cons, pick_len e2]
    · cases h
  | .d p :: r, es, ys, h => by
    simp only [pickA] at h
    obtain ⟨b, hb, rfl⟩ := Option.map_eq_some_iff.mp h
    rw [List.length_cons, List.length_cons, pick_len hb]
/-- where the k-th comes from -/
theorem pick_at : ∀ {pm : List CA} {es ys : List ER} {k : Nat} {e : ER}, pickA es pm = some ys → ys[k]? = some e → (∃ i : Nat, pm[k]? = some (.a i) ∧ es[i]? = some e) ∨ ∃ p, pm[k]? = some (.d p) ∧ e = .v p
  | [], es, ys, k, e, h, q => by cases h; simp at q
  | .a i :: r, es, ys, k, e, h, q => by
    simp only [pickA] at h
    split at h
    · rename_i x zs e1 e2
      cases h
      cases k with
      | zero =>
        simp at q
        subst q
        exact .inl ⟨i, rfl, e1⟩
      | succ k =>
        rcases pick_at (k := k) e2 (by simpa using q) with ⟨j, h1, h2⟩ | ⟨p, h1, h2⟩
        · exact .inl ⟨j, by simpa using h1, h2⟩
        · exact .inr ⟨p, by simpa using h1, h2⟩
    · cases h
  | .d p :: r, es, ys, k, e, h, q => by
    simp only [pickA] at h
    obtain ⟨zs, hb, rfl⟩ := Option.map_eq_some_iff.mp h
    cases k with
    | zero =>
      simp at q
      exact .inr ⟨p, rfl, q.symm⟩
    | succ k =>
      rcases pick_at (k := k) hb (by simpa using q) with ⟨j, h1, h2⟩ | ⟨p, h1, h2⟩
      · exact .inl ⟨j, by simpa using h1, h2⟩
      · exact .inr ⟨p, by simpa using h1, h2⟩
theorem pick_ix : ∀ {pm : List CA} {j k i : Nat}, (pickIx pm).Nodup → pm[j]? = some (.a i) → pm[k]? = some (.a i) → j = k := by
  have mem : ∀ {pm : List CA} {k i : Nat}, pm[k]? = some (.a i) → i ∈ pickIx pm := by
    intro pm
    induction pm with
    | nil => intro k i h; simp at h
    | cons c r ih =>
      intro k i h
      cases k with
      | zero =>
        simp at h
        subst h
        exact .head _
      | succ k =>
        have := ih (k := k) (by simpa using h)
        cases c with
        | a j => exact .tail _ this
        | d p => exact this
  intro pm
  induction pm with
  | nil => intro j k i _ h; simp at h
  | cons c r ih =>
    intro j k i nd h1 h2
    have nd' : (pickIx r).Nodup := by
      cases c with
      | a j => exact (List.nodup_cons.mp nd).2
      | d p => exact nd
    cases j with
    | zero =>
      simp at h1
      subst h1
      cases k with
      | zero => rfl
      | succ k => exact absurd (mem (k := k) (by simpa using h2)) (List.nodup_cons.mp nd).1
    | succ j =>
      cases k with
      | zero =>
        simp at h2
        subst h2
        exact absurd (mem (k := j) (by simpa using h1)) (List.nodup_cons.mp nd).1
      | succ k => rw [ih (j := j) (k := k) nd' (by simpa using h1) (by simpa using h2)]
theorem picks_ok {us : List Value} {vs : List V} {es ys : List ER} {pm : List CA} {zs : List Value} (P : Picks us pm zs) (rv : Vals vs us) (hp : pickA es pm = some ys) (nd : (pickIx pm).Nodup) (R : ErRs K H0 H γ σ st vs es) :
    ∃ ws, Vals ws zs ∧ ErRs K H0 H γ σ st ws ys := by
  -- the values
  have vals : ∀ {pm : List CA} {zs : List Value}, Picks us pm zs → ∃ ws, Vals ws zs ∧ ws.length = pm.length ∧ ∀ (k : Nat) (w : V), ws[k]? = some w → (∃ i : Nat, pm[k]? = some (.a i) ∧ vs[i]? = some w) ∨ ∃ p, pm[k]? = some (.d p) ∧ ∀ (K : PySem.W.Frag) (H : Hp) (M : Addr → Prop) (γ : Gm), Rep K H M γ w p := by
    intro pm zs P
    induction P with
    | nil => exact ⟨[], .nil, rfl, fun k w h => by simp at h⟩
    | @a i z r zs h _ ih =>
      obtain ⟨ws, h1, h2, h3⟩ := ih
      have hi : i < vs.length := by rw [rv.length]; exact (List.getElem?_eq_some_iff.mp h).1
      obtain ⟨u, hu, ru⟩ := rv.get (x := vs[i]) (i := i) (by simp)
      rw [h] at hu
      cases hu
      refine ⟨vs[i] :: ws, .cons ru h1, by simp [h2], fun k w q => ?_⟩
      cases k with
      | zero =>
        simp at q
        subst q
        exact .inl ⟨i, rfl, by simp⟩
      | succ k =>
        rcases h3 k w (by simpa using q) with ⟨j, a1, a2⟩ | ⟨p, a1, a2⟩
        · exact .inl ⟨j, by simpa using a1, a2⟩
        · exact .inr ⟨p, by simpa using a1, a2⟩
    | @d p z r zs h _ ih =>
      obtain ⟨ws, h1, h2, h3⟩ := ih
      obtain ⟨v, rv', hr⟩ := h
      refine ⟨v :: ws, .cons rv' h1, by simp [h2], fun k w q => ?_⟩
      cases k with
      | zero =>
        simp at q
        subst q
        exact .inr ⟨p, rfl, hr⟩
      | succ k =>
        rcases h3 k w (by simpa using q) with ⟨j, a1, a2⟩ | ⟨p, a1, a2⟩
        · exact .inl ⟨j, by simpa using a1, a2⟩
        · exact .inr ⟨p, by simpa using a1, a2⟩
  obtain ⟨ws, h1, h2, h3⟩ := vals P
  have own : ∀ (k : Nat) (d : LD) (w : V), ys[k]? = some (ER.own d) → ws[k]? = some w → ∃ i : Nat, pm[k]? = some (.a i) ∧ es[i]? = some (ER.own d) ∧ vs[i]? = some w := fun k d w e q => by
    rcases pick_at hp e with ⟨i, a1, a2⟩ | ⟨p, _, a2⟩
    · rcases h3 k w q with ⟨j, b1, b2⟩ | ⟨p, b1, _⟩
      · rw [a1] at b1
        cases b1
        exact ⟨i, a1, a2, b2⟩
      · rw [a1] at b1
        cases b1
    · cases a2
  refine ⟨ws, h1, errs_of (by rw [h2, pick_len hp]) (fun k w e q1 q2 => ?_) fun j k d d' w e1 e2 q1 q2 => ?_⟩
  · rcases pick_at hp q2 with ⟨i, a1, a2⟩ | ⟨p, a1, a2⟩
    · rcases h3 k w q1 with ⟨j, b1, b2⟩ | ⟨p, b1, _⟩
      · rw [a1] at b1
        cases b1
        obtain ⟨v, hv, r⟩ := R.get a2
        rw [b2] at hv
        cases hv
        exact r
      · rw [a1] at b1
        cases b1
    · rcases h3 k w q1 with ⟨j, b1, b2⟩ | ⟨p', b1, b2⟩
      · rw [a1] at b1
        cases b1
      · rw [a1] at b1
        cases b1
        subst a2
        exact b2 _ _ _ _
  · obtain ⟨i, a1, a2, a3⟩ := own j d w e1 q1
    obtain ⟨i', b1, b2, b3⟩ := own k d' w e2 q2
    have := R.apart a2 b2 a3 b3
    subst this
    exact pick_ix nd a1 b1
end
section
variable {X : Cx} {B : Bs} {C : Ctx} {T : Tbl} {n m : Nat} {a : Addr} {fd : FuncData} {ps ks : List Str} {f x : Str} {p pos kpos : Pos} {es : List Expr} {e : Expr} {kws : List Keyword} {ms mk : EL} {me : E} {pm : List CA} {nm : Option Str}
theorem s_knil : PK X [] (tL B C .nil) := by
  refine ⟨fun pos pins s σ H Qk I ⟨γ, st, S, h⟩ => PK.run pk_nil pos pins s σ H Qk I ?_⟩
  rw [evL] at h
  exact h [] H γ Tr.refl S .nil
theorem s_kcons (ha : PE X e (tE B C me)) (hr : PK X kws (tL B C mk)) : PK X (⟨nm, e, kpos⟩ :: kws) (tL B C (.cons me mk)) := by
  refine ⟨fun pos pins s σ H Qk I ⟨γ, st, S, h⟩ => PK.run (pk_cons ha hr) pos pins s σ H Qk I ?_⟩
  rw [evL, wp_bind] at h
  refine ⟨γ, st, S, wp_mono h (fun x st1 h v1 H1 γ1 T1 S1 R1 => ?_) fun _ _ e => e⟩
  rw [wp_bind] at h
  exact ⟨γ1, st1, S1, wp_mono h (fun y st2 h vs H2 γ2 T2 S2 R2 => h (v1 :: vs) H2 γ2 (T1.trans T2) S2 (.cons (ErR.tr T2 R1) (ErRs.old T1.dom R2) (errs_new R1 R2))) fun _ _ e => e.trans T1⟩
theorem kw_map (pos : Pos) (env : PySem.Env) : ∀ kws : List Keyword, (backToKw pos (keywordEach kws env)).map (·.1) = kws.map (·.arg)
  | [] => rfl
  | ⟨x, e, kp⟩ :: r => by
    have ih := kw_map pos env r
    unfold backToKw at ih ⊢
    simp only [keywordEach, List.map_cons, List.map_map] at ih ⊢
    rw [ih]
theorem kw_list : ∀ {l : List (Option Str × Sem Value)} {ks : List Str}, l.map (·.1) = ks.map some → l.all (·.1.isSome) = true ∧ l.filterMap (·.1) = ks ∧ l.any (·.1.isNone) = false
  | [], ks, e => by
    have : ks = [] := by simpa using e.symm
    subst this
    exact ⟨rfl, rfl, rfl⟩
  | y :: r, [], e => by simp at e
  | (y, z) :: r, k :: ks, e => by
    simp only [List.map_cons, List.cons.injEq] at e
    obtain ⟨e1, e2⟩ := e
    subst e1
    obtain ⟨a, b, c⟩ := kw_list e2
    refine ⟨by simpa using a, by simp [b], by simpa using c⟩
def EL.len : EL → Nat
  | .nil => 0
  | .cons _ r => r.len + 1
theorem wp_eq {α : Type} {o : Out α} {q : α → ST → Prop} {e : XV → ST → Prop} (h : o.wp q e) : o.wp (fun a st => q a st ∧ o = .ok a st) e := by
  cases o with
  | ok a st => exact ⟨h, rfl⟩
  | exc x st => exact h
  | bad => exact h
theorem evL_len {C : Ctx} : ∀ {ms : EL} {st st' : ST} {xs : List ER}, evL C ms st = .ok xs st' → xs.length = ms.len
  | .nil, st, st', xs, h => by
    rw [evL] at h
    cases h
    rfl
  | .cons e r, st, st', xs, h => by
    rw [evL] at h
    cases q : ev C e st with
    | ok a st1 =>
      rw [q, bind_ok] at h
      cases q2 : evL C r st1 with
      | ok b st2 =>
        rw [q2, bind_ok] at h
        cases h
        rw [List.length_cons, evL_len q2]
        rfl
      | exc x st2 => rw [q2] at h; cases h
      | bad => rw [q2] at h; cases h
    | exc x st1 => rw [q] at h; cases h
    | bad => rw [q] at h; cases h
theorem s_callp (hK : B.K = X.K) (hM : B.mg = X.mg) (hc : C.call = callN T n) (F : FnG X.prog X.w X.K X.mg X.base (L2.CX X.prog X.w) n a fd ps (spF X.K X.mg T n f)) (hG : X.A.guards = some []) (hr : Room n X.A) (hg : Gl X f) (hm : X.mg f = some (.ref a)) (hk : PySem.W.keepIn X.K (.ref a) = true) (hb : PBinds X.K fd ps ms.len ks pm) (tk : Takes X B.W)
    (hdb : (f == ("__debug__" : Str)) = false) (ha : PA X es (tL B C ms)) (hkw : PK X kws (tL B C mk)) (hks : kws.map (·.arg) = ks.map some) (hln : mk.len = ks.length) (hs : ∀ e ∈ es, isStar e = false) (h0 : es = [] → ms = .nil) :
    PE X (.Call (.Name f p) es kws pos) (tE B C (.callp f pm ms mk)) := by
  obtain ⟨hall, hfm, hno⟩ := kw_list ((kw_map pos X.env kws).trans hks)
  refine ⟨fun pins s σ H Qk I h => wpAny_Call_Name_kw (ld_glob I hg hm ?_ hdb)⟩
  have core : ∀ {s2 : Shared} {us ws : List Value} {vs zs : List V} {H2 : Hp}, Inv X pins σ H2 s2 → Vals vs us → Vals zs ws → (vs.length = ms.len ∧ zs.length = mk.len ∧ ∀ (us ws zv : List Value), Vals vs us → Vals zs ws → Picks (us ++ ws) pm zv → ∃ vs', Vals vs' zv ∧ spF X.K X.mg T n f vs' H2 Qk (WE B.W σ)) →
      wpAny (model X.prog X.w) X.A (call (.ref a) us (ks.zip ws)) (EP X pins σ Qk) X.xe s2 := fun {s2 us ws vs zs H2} I2 r rz q => by
    obtain ⟨l1, l2, q⟩ := q
    obtain ⟨zv, hbt, hpk⟩ := hb.to s2 us ws I2.kIn (by rw [← r.length]; exact l1) (by rw [← rz.length, l2]; exact hln)
    obtain ⟨vs', rv', hsp⟩ := q us ws zv r rz hpk
    refine wpAny_call (codeAny_mono (run_fnG (us := us) (vs := vs) (Qk := Qk) (pins := pins) F hG hr hbt tk I2 rv' hsp) fun r s' hq => ?_)
    rcases r with e | fl
    · exact hq
    · cases fl <;> exact hq
  have rd : tL B C ms σ H fun vs H1 => tL B C mk σ H1 fun zs H2 => vs.length = ms.len ∧ zs.length = mk.len ∧ ∀ (us ws zv : List Value), Vals vs us → Vals zs ws → Picks (us ++ ws) pm zv → ∃ vs', Vals vs' zv ∧ spF X.K X.mg T n f vs' H2 Qk (WE B.W σ) := by
    obtain ⟨γ, st, S, h⟩ := h
    rw [ev, wp_bind] at h
    refine ⟨γ, st, S, wp_mono (wp_eq h) (fun xs st1 h vs H1 γ1 T1 S1 R1 => ?_) fun _ _ e => e⟩
    obtain ⟨h, hx⟩ := h
    rw [wp_bind] at h
    refine ⟨γ1, st1, S1, wp_mono (wp_eq h) (fun ys st2 h zs H2 γ2 T2 S2 R2 => ?_) fun _ _ e => e.trans T1⟩
    obtain ⟨h, hy⟩ := h
    refine ⟨by rw [ErRs.len R1, evL_len hx], by rw [ErRs.len R2, evL_len hy], fun us ws zv rv rw' hpk => ?_⟩
    split at h
    · rename_i zr hp
      split at h
      · rename_i nd
        have R := errs_app T2 T1.dom R2 R1
        obtain ⟨vs', rv', R'⟩ := picks_ok hpk (rv.append rw') hp nd R
        exact ⟨vs', rv', call_ok hK hM rfl S (T1.trans T2) S2 R' hc h⟩
      · exact h.elim
    · exact h.elim
  cases es with
  | nil =>
    have e0 := h0 rfl
    have r0 : tL B C mk σ H fun zs H2 => ([] : List V).length = ms.len ∧ zs.length = mk.len ∧ ∀ (us ws zv : List Value), Vals [] us → Vals zs ws → Picks (us ++ ws) pm zv → ∃ vs', Vals vs' zv ∧ spF X.K X.mg T n f vs' H2 Qk (WE B.W σ) := by
      rw [e0] at rd
      obtain ⟨γ, st, S, h⟩ := rd
      rw [evL] at h
      exact e0 ▸ h [] H γ Tr.refl S .nil
    refine PySem.W.callWith_KW0 (h₀ := X.base) I.ok.mod.kin hk hall (thn (hkw.run pos pins s σ H _ I r0) fun ws s2 ⟨zs, H2, I2, rz, q2⟩ => ⟨I2.kIn, ?_⟩) (by rw [hno]; rfl)
    rw [hfm]
    exact core (us := []) I2 .nil rz q2
  | cons e r =>
    refine PySem.W.callWith_KW (h₀ := X.base) I.ok.mod.kin hk hall (thn (ha.run pos pins s σ H _ I rd) fun us s1 ⟨vs, H1, I1, r1, q⟩ => thn (hkw.run pos pins s1 σ H1 _ I1 q) fun ws s2 ⟨zs, H2, I2, rz, q2⟩ => ⟨I2.kIn, ?_⟩) (by rw [hno, Bool.or_false]; exact backTo_plain pos X.env (e :: r) hs) (star_of (hs e (.head _)) r X.env)
    rw [hfm]
    exact core I2 r1 rz q2
end
/-! ### o[i] = e -/
def rSub : TSet := fun o k v H Qk => rSetL o k v H Qk ∨ ∃ a H4, o = .ref a ∧ DPut H a k v H4 ∧ Qk H4
theorem set_any {X : Cx} (hu : X.A.units + 1 < cLine) : PSet X rSub := fun pins s σ H o i v ov iv u Qk I ro ri rv h => by
  rcases h with h | ⟨a, H4, rfl, g, q⟩
  · exact set_list pins s σ H o i v ov iv u Qk I ro ri rv h
  · cases ro
    exact d_setItem hu I g ri rv fun s' I' => ⟨H4, I', q⟩
theorem sub_imp {B : Bs} {C : Ctx} {σ : L2.St} {H : Hp} {D : Ends} {i : Nat} {mk me : E} (h : tS B C (.sub i mk me) D σ H) : tAsg (tE B C me) (gSub (tVar i) (tE B C mk) rSub) D σ H := by
  obtain ⟨γ, st, S, h⟩ := h
  rw [ex] at h
  split at h
  · rename_i ho
    unfold ownsD at ho
    split at ho
    · rename_i d0 q0
      obtain ⟨u, hu, a, rfl, o0⟩ := S.sv i _ q0
      have h := so_wp h
      rw [frzO, wp_bind] at h
      refine ⟨γ, st, S, wp_mono h (fun x st1 h v H1 γ1 T1 S1 R1 => ?_) fun _ _ e => e⟩
      split at h
      · rename_i p st2 hf
        obtain ⟨S2, T2, R2⟩ := frz_ok S.lk T1 S1 hf R1
        rw [frzO, wp_bind] at h
        refine ⟨_, hu, _, st2, S2, wp_mono h (fun y st3 h w H3 γ3 T3 S3 R3 => ?_) fun _ _ e => e.trans T2⟩
        split at h
        · rename_i k st4 hf'
          obtain ⟨S4, T4, R4⟩ := frz_ok S2.lk T3 S3 hf' R3
          have Rp := R2.tr T4
          cases q : subO C i k p st4 with
          | none => rw [q] at h; exact h.elim
          | some st5 =>
            rw [q] at h
            unfold subO at q
            split at q
            · rename_i xs q4
              split at q
              · rename_i n
                obtain ⟨j, e1, e2⟩ := Option.map_eq_some_iff.mp q
                cases e2
                obtain ⟨u2, hu2, b, rfl, ws, hl, rs⟩ := S4.sv i _ q4
                rw [hu] at hu2
                cases hu2
                cases R4
                have W := Sim.write (K := B.K) (o := .lst (ws.set j v)) (d' := .lst (xs.set j p)) S4 q4 hu fun H' T e => ⟨_, e, Reps.set (Rep.tr T Rp) j (Reps.tr T rs)⟩
                exact .inl ⟨_, ws, n, j, rfl, rfl, hl, by rw [rs.len]; exact e1, h _ _ _ ⟨T2.trans (T4.trans W.2), W.1, Kp.refl⟩⟩
              · cases q
            · rename_i t kvs q4
              split at q
              · rename_i hk
                cases q
                simp only [Bool.and_eq_true, decide_eq_true_eq] at hk
                obtain ⟨hk, hz⟩ := hk
                obtain ⟨u2, hu2, b, rfl, o⟩ := S4.sv i _ q4
                rw [hu] at hu2
                cases hu2
                cases t with
                | false =>
                  obtain ⟨ks, hd, pr⟩ := o
                  have f : flatKey k = true := hk
                  have W := Sim.write (K := B.K) (o := .dK (putK ks (toKey k) v)) (d' := .dct false (dPut kvs k p)) S4 q4 hu fun H' T e => ⟨_, e, put_flat (Paired.imp2 pr fun _ _ z => ⟨z.1, Rep.tr T z.2⟩) f (Rep.tr T Rp)⟩
                  refine .inr ⟨_, _, rfl, ?_, h _ _ _ ⟨T2.trans (T4.trans W.2), W.1, Kp.refl⟩⟩
                  rw [rep_key R4 f]
                  exact DPut.k hd (by rw [Paired.length pr, sizeL]; exact hz)
                | true =>
                  obtain ⟨ks, hd, pr⟩ := o
                  cases k with
                  | tup xs =>
                    have f : xs.all flatKey = true := hk
                    have W := Sim.write (K := B.K) (o := .dT (putK ks (xs.map toKey) v)) (d' := .dct true (dPut kvs (.tup xs) p)) S4 q4 hu fun H' T e => ⟨_, e, put_tup (Paired.imp2 pr fun _ _ z => ⟨z.1, Rep.tr T z.2⟩) f (Rep.tr T Rp)⟩
                    refine .inr ⟨_, _, rfl, ?_, h _ _ _ ⟨T2.trans (T4.trans W.2), W.1, Kp.refl⟩⟩
                    cases R4 with
                    | tup h1 n1 r1 =>
                      refine DPut.t hd ?_ (by rw [Paired.length pr, sizeL]; exact hz)
                      rw [h1, reps_keys r1 f]
                  | _ => exact absurd hk (by simp [keyOk])
              · cases q
            · cases q
        · exact h.elim
      · exact h.elim
    · cases ho
  · exact h.elim
theorem s_sub {X : Cx} {B : Bs} {C : Ctx} {n i : Nat} {y : Str} {p p2 pos : Pos} {e ek : Expr} {me mk : E} (hr : Room n X.A) (hi : X.N[i]? = some y) (hv : Vis X.env.scope y) (h1 : (y == ("__debug__" : Str)) = false) (h2 : (y == ("__classdict__" : Str)) = false) (he : PE X e (tE B C me)) (hk : PE X ek (tE B C mk))
    (ha : ∀ v, assign (.Subscript (.Name y p) ek p2) X.env v = (do
      let ov ← holding [v] (eval (.Name y p) X.env)
      let iv ← holding [v, ov] (eval ek X.env)
      standAt p2
      holding [v, ov, iv] (setItem ov iv v)
      release [v, ov, iv] [])) (hs : swapsWithSole [.Subscript (.Name y p) ek p2] e pos.line X.env = pure false) (hw : swappedStores [.Subscript (.Name y p) ek p2] e X.env = pure none) :
    PS X (.Assign [.Subscript (.Name y p) ek p2] e pos) (tS B C (.sub i mk me)) :=
  PS.mono (ps_asg he (pg_sub (pe_var hi hv h1 h2) hk (set_any (by have := units64 hr; omega)) ha) hs hw rfl) fun _ _ _ h => sub_imp h
end Q
end
section
set_option maxHeartbeats 1000000
namespace Q
open PySem PySem.Spec PyProof.Rows
open L2 hiding cutV
/-! ### a comprehension over an own list that is lent out for its time -/
section
variable {K : PySem.W.Frag} {H0 H H' : Hp} {γ γ' : Gm} {σ σ' : L2.St} {st st' : ST} {v : V}
theorem own_at (S : Sim K H γ σ st) {i : Nat} {xs : List PV} (e : envAt st i = some (.own (.lst xs))) : ∃ a vs, σ[i]? = some (some (.ref a)) ∧ H a = some (.lst vs) ∧ Reps K H (Mu γ σ st) γ vs xs := by
  obtain ⟨v, hv, a, rfl, vs, h, r⟩ := S.sv i _ e
  exact ⟨a, vs, hv, h, r⟩
theorem Sim.lend (S : Sim K H γ σ st) {i : Nat} {xs : List PV} {a : Addr} {vs : List V} (e : envAt st i = some (.own (.lst xs))) (hs : σ[i]? = some (some (.ref a))) (h : H a = some (.lst vs)) :
    Sim K H (γ.add a) σ (st.put i none) ∧ Tr H (Mu γ σ st) γ H (Mu (γ.add a) σ (st.put i none)) (γ.add a) := by
  have ma : Mu γ σ st a := .inr ⟨i, _, e, hs⟩
  have back : ∀ j s, envAt (st.put i none) j = some s → j ≠ i ∧ envAt st j = some s := fun j s q => by
    by_cases hj : j = i
    · subst hj
      rw [envAt_same (envAt_lt e)] at q
      cases q
    · rw [envAt_other hj] at q
      exact ⟨hj, q⟩
  have has : ∀ b, (γ.add a).has b → b = a ∨ γ.has b := fun b m => by
    rcases m with m | m
    · exact .inr (.inl m)
    · rcases List.mem_cons.mp m with m | m
      · exact .inl m
      · exact .inr (.inr m)
  have T : Tr H (Mu γ σ st) γ H (Mu (γ.add a) σ (st.put i none)) (γ.add a) := ⟨fun _ _ e _ => e, fun _ m => .tail _ m, fun _ e => e, fun b m => .inl (by
    rcases m with m | ⟨j, d, q1, q2⟩
    · rcases has b m with rfl | m
      · exact ma
      · exact .inl m
    · exact .inr ⟨j, d, (back j _ q1).2, q2⟩), ⟨[], by simp [Gm.add]⟩⟩
  refine ⟨⟨by rw [put_len]; exact S.len, fun j s q => ?_, fun j k d1 d2 b e1 e2 q1 q2 => S.inj j k d1 d2 b (back j _ e1).2 (back k _ e2).2 q1 q2, fun b m => ?_, fun j d1 b q1 q2 m => ?_, S.g0⟩, T⟩
  · obtain ⟨u, hu, r⟩ := S.sv j s (back j s q).2
    refine ⟨u, hu, ?_⟩
    cases s with
    | v p => exact Rep.tr T r
    | own d1 =>
      obtain ⟨b, e1, r⟩ := r
      exact ⟨b, e1, r.tr' T fun _ e => e⟩
  · rcases has b m with rfl | m
    · exact ⟨_, h⟩
    · exact S.gl b m
  · obtain ⟨hj, z⟩ := back j _ q1
    rcases has b m with rfl | m
    · exact hj (S.inj j i _ _ _ z e q2 hs)
    · exact S.sep j d1 b z q2 m
theorem it_lent {M : Addr → Prop} {a : Addr} {vs : List V} {xs : List PV} (h : H a = some (.lst vs)) (hl : a ∈ γ.lock) (r : Reps K H M γ vs xs) : ItR K (Itl K a) xs H M γ := fun H' M' γ' T => by
  have h' := T.keep a _ h (.inr hl)
  have rs := Reps.tr T r
  refine ⟨fun i hi => ⟨vs, SqL.of h', by rw [rs.len]; exact hi⟩, fun i x hx => ?_⟩
  obtain ⟨z, hz, rz⟩ := rs.get hx
  refine ⟨⟨vs, z, SqL.of h', hz⟩, fun w H3 ⟨e, y⟩ => ⟨e, ?_⟩⟩
  have := y vs (SqL.of h')
  rw [hz] at this
  cases this
  exact rz
end
section
variable {B : Bs} {C : Ctx} {ws : List Nat} {tg : Tg} {cond : T} {elt : E}
theorem lco_imp {i : Nat} (htg : ∀ i ∈ tg.slots, i ∈ ws) {σ : L2.St} {H : Hp} {Qk : VK} (h : tE B C (.lco ws tg i cond elt) σ H Qk) : tLc (iAny B.K (tVar i)) (gTg B.K tg) (tT B.off C cond) (tE B.off C elt) ws σ H Qk := by
  obtain ⟨γ, st, S, h⟩ := h
  rw [ev] at h
  split at h
  · rename_i xs e
    obtain ⟨a, vs, hs, ha, r⟩ := own_at S e
    obtain ⟨S1, T1⟩ := S.lend e hs ha
    refine ⟨.ref a, hs, .inl ⟨a, rfl, .inl ⟨⟨vs, SqL.of ha⟩, fun D hD => ?_⟩⟩⟩
    have r1 := Reps.tr T1 r
    have R1 : ItR B.K (Itl B.K a) xs H (Mu (γ.add a) σ (st.put i none)) (γ.add a) := it_lent ha (.head _) r1
    have nD : D ≠ a := fun z => by rw [z, ha] at hD; cases hD
    have nDl : D ∉ (γ.add a).lock := fun m => by
      obtain ⟨o, q⟩ := S1.gl D (.inr m)
      rw [hD] at q
      cases q
    rw [wp_bind, noExc_wp] at h
    generalize hKt : (fun (ps : List PV) (st : ST) => (if ps.length ≤ line then Out.ok (ER.own (LD.lst ps)) (st.put i (some (.own (.lst xs)))) else Out.bad).wp (okK B σ H γ _ (relE B.K σ H) Qk) (excK B σ H γ _)) = Kt at h
    have S0 := S1.hold (upd_ext (o := .lst []) hD) hD ⟨_, upd_same⟩
    have T0 : Tr H (Mu (γ.add a) σ (st.put i none)) (γ.add a) (upd H D (.lst [])) (Mu ((γ.add a).add D) σ (st.put i none)) ((γ.add a).add D) := S0.2
    refine ⟨LcW B.K σ H (Mu (γ.add a) σ (st.put i none)) (γ.add a) H (Mu (γ.add a) σ (st.put i none)) (γ.add a) D _ xs Kt, ⟨xs.length, [], [], st.put i none, (γ.add a).add D, rfl, Nat.zero_le _, S0.1, S0.2, S0.2, .head _, upd_same, .nil, h⟩, ?_⟩
    intro k m H2 w
    by_cases hlt : k < xs.length
    · obtain ⟨go, q⟩ := lc_turn rfl htg hD (.inl hD) nDl (fun r st z => by
        rw [← hKt] at z
        split at z
        · assumption
        · exact z.elim) R1 hlt w
      exact .inr ⟨go, _, fun H' n => ⟨_, (by obtain ⟨_, _, _, _, e, _⟩ := w; omega), n⟩, q⟩
    · obtain ⟨acc, us, st2, γ2, rfl, hi, S2, T2, Tb, hl, hd, rs, w⟩ := w
      have e' : k = xs.length := by omega
      subst e'
      rw [List.drop_length] at w
      refine .inl ⟨(R1 H2 _ γ2 Tb).1 _ (Nat.le_refl _), ?_⟩
      have w : Kt (acc ++ []) st2 := w
      rw [List.append_nil, ← hKt] at w
      split at w
      · have ha2 := T2.keep a _ ha (.inr (.head _))
        have hal := T2.lock a (.head _)
        have o2 : OwnR B.K H2 (Mu γ2 σ st2) γ2 a (.lst xs) := ⟨vs, ha2, Reps.tr T2 r1⟩
        obtain ⟨S3, T3⟩ := S2.own1 (lk := γ2.lock.filter fun b => decide (b ≠ a)) i hal o2 (fun b m => (List.mem_filter.mp m).1) (by simp)
        have hss : σ.set i (some (.ref a)) = σ := by
          refine List.ext_getElem? fun j => ?_
          by_cases hj : j = i
          · subst hj
            rw [List.getElem?_set_self (List.getElem?_eq_some_iff.mp hs).1, hs]
          · rw [List.getElem?_set_ne (Ne.symm hj)]
        rw [hss] at S3 T3
        have T4 : Tr H (Mu γ σ st) γ H2 _ _ := (T1.trans T2).seal' T3 rfl fun b m => by
          refine List.mem_filter.mpr ⟨T2.lock b (.tail _ m), ?_⟩
          have : b ≠ a := fun z => by
            subst z
            exact S.sep i _ _ e hs (.inr m)
          simpa using this
        refine w _ H2 _ T4 S3 ⟨D, rfl, hD, List.mem_filter.mpr ⟨hl, by simpa using nD⟩, us, hd, ?_⟩
        exact Reps.tr T3 (Reps.gam (γ := γ2) (γ' := ⟨γ2.obj, []⟩) rfl rs)
      · exact w.elim
  · exact h.elim
end
end Q
end
section
set_option maxHeartbeats 1000000
namespace Q
open PySem PySem.Spec PyProof.Rows
open L2 hiding cutV
/-! ### where a text stands -/
/-- how a def is called with keywords: so many by position, these names; what its parameters get -/
structure KB where
  f : Str
  n : Nat
  ks : List Str
  pm : List CA
structure TC where
  N : List Str
  sc : Scope
  fn : Str → Bool
  T : Tbl
  known : Str → Bool
  posk : Str → Bool
  kbs : List KB
def bltNames : List Str := ["len", "int", "abs", "tuple", "list", "all", "repr", "str", "bool", "max", "min", "range", "reversed", "isinstance", "sorted", "set", "dict"]
structure XOk (c : TC) (lv : Nat) (X : Cx) (B : Bs) (C : Ctx) : Prop where
  K : B.K = X.K
  mg : B.mg = X.mg
  N : X.N = c.N
  nd : X.N.Nodup
  sc : X.env.scope = c.sc
  fn : X.fn = c.fn
  calm : X.calm = true
  room : Room lv X.A
  gd : X.A.guards = some []
  tk : Takes X B.W
  call : C.call = callN c.T lv
  fns : ∀ f, c.known f = true → ∃ a fd ps, X.mg f = some (.ref a) ∧ PySem.W.keepIn X.K (.ref a) = true ∧ FnG X.prog X.w X.K X.mg X.base (L2.CX X.prog X.w) lv a fd ps (spF X.K X.mg c.T lv f) ∧ (c.posk f = true → Binds X.K fd ps []) ∧ ∀ b ∈ c.kbs, b.f = f → PBinds X.K fd ps b.n b.ks b.pm
  blt : ∀ x ∈ bltNames, X.mg x = none
def TC.blk (c : TC) (scope : Scope) : TC := { c with sc := relS scope c.sc, fn := fun x => scope.names.lookup x == some .cell }
theorem XOk.blk {c : TC} {lv : Nat} {X : Cx} {B : Bs} {C : Ctx} (h : XOk c lv X B C) (scope : Scope) (s : Shared) (H : Hp) (L : Addr) (cl : List (Str × Addr)) (fp : List Addr) : XOk (c.blk scope) lv (X.blk s H scope (compEnvC scope cl L X.env) fp) B.off C where
  K := h.K
  mg := h.mg
  N := h.N
  nd := h.nd
  sc := by rw [TC.blk, ← h.sc]; rfl
  fn := rfl
  calm := h.calm
  room := h.room
  gd := h.gd
  tk := fun _ _ ⟨_, _, _, _, _, _, _, _, _, _, _, _, _, _, _, _, w⟩ => w.elim
  call := h.call
  fns := h.fns
  blt := h.blt
/-! ### the link between the two texts -/
def look (c : TC) (x : Str) : Option NameKind := c.sc.names.lookup x
def isVis (c : TC) (x : Str) : Bool := (look c x == some .local || look c x == some .cell || look c x == some .free) && !(x == ("__debug__" : Str)) && !(x == ("__classdict__" : Str))
def isGl (c : TC) (x : Str) : Bool := look c x == some .globalImplicit && !(x == ("__debug__" : Str))
def isTo (c : TC) (i : Nat) (x : Str) : Bool := c.N[i]? == some x && (look c x == some .local || (look c x == some .cell && c.fn x))
def notComp : Expr → Bool
  | .ListComp _ _ _ _ => false
  | .SetComp _ _ _ _ => false
  | .DictComp _ _ _ _ _ => false
  | _ => true
def notSet : Expr → Bool
  | .Set _ _ _ => false
  | _ => true
def notSlice : Expr → Bool
  | .Slice _ _ _ _ => false
  | _ => true
def notTuple : Expr → Bool
  | .Tuple _ _ _ => false
  | _ => true
/-- a receiver that is a name of a slot -/
def notMod : Expr → Bool
  | .Name _ _ => true
  | _ => false
def plainTest : Expr → Bool
  | .UnaryOp .Not _ _ => false
  | .BoolOp _ _ _ => false
  | .IfExp _ _ _ _ => false
  | .Compare _ _ _ _ => false
  | _ => true
def opOk : Operator → Bool
  | .Add => true
  | .Sub => true
  | .Mult => true
  | .FloorDiv => true
  | .Mod => true
  | .Pow => true
  | .LShift => true
  | .RShift => true
  | .BitAnd => true
  | _ => false
def bfName : BF → Option Str
  | .len => some "len"
  | .int => some "int"
  | .abs => some "abs"
  | .tuple => some "tuple"
  | .list => some "list"
  | .all => some "all"
  | .repr => some "repr"
  | .str => some "str"
  | .bool => some "bool"
  | .max2 => some "max"
  | .min2 => some "min"
  | .dictOf => some "dict"
  | _ => none
def mmName : MM → Str
  | .append => "append"
  | .extend => "extend"
  | .pop => "pop"
  | .popAt => "pop"
  | .insert => "insert"
  | .clear => "clear"
def ctName (c : CT) : Str := Str.ofString c.name
def ownOf (c : TC) (ws : List Nat) : List (Str × Nat) := ws.map fun i => ((c.N[i]?).getD "", i)
inductive Jb where
  | e (m : E) (x : Expr)
  | l (m : EL) (xs : List Expr)
  | k (m : EL) (xs : List Keyword)
  | t (m : T) (x : Expr)
  | ta (m : T) (op : BoolOp) (xs : List Expr)
  | ea (m : E) (op : BoolOp) (xs : List Expr)
  | o (m : OE) (x : Option Expr)
  | i (m : IT) (x : Expr)
  | g (m : Tg) (x : Expr)
  | gs (m : List Nat) (xs : List Expr)
  | c (m : T) (xs : List Expr)
  | s (m : S) (x : Stmt)
  | ss (m : SL) (xs : List Stmt)
/-- whether  y = [..]  swaps its store -/
def swB (c : TC) (e : Expr) (y : Str) (py : Pos) : Bool := match e with
  | .ListComp _ _ s _ => (if c.sc.kind.isAnnotationScope then ScopeKind.function else c.sc.kind) == .function && look c y == some .local && py.line == e.pos.line && !(s.names.any fun (n, k) => n == y && (k == .local || k == .cell))
  | .DictComp _ _ _ s _ => (if c.sc.kind.isAnnotationScope then ScopeKind.function else c.sc.kind) == .function && look c y == some .local && py.line == e.pos.line && !(s.names.any fun (n, k) => n == y && (k == .local || k == .cell))
  | _ => false
def sw1 (ts vs : List Expr) (sc : Scope) : Bool := !(ts.length == 2 || ts.length == 3) || vs.length != ts.length || (if sc.kind.isAnnotationScope then ScopeKind.function else sc.kind) != .function
def swNm (ts : List Expr) (sc : Scope) : List Str := ts.filterMap fun
    | .Name id pos => if sc.names.lookup id == some .local && pos.line == (ts.head?.map (·.pos.line)).getD 0 then some id else none
    | _ => none
def sw3 (ts : List Expr) (sc : Scope) : Bool := (swNm ts sc).length != ts.length || (swNm ts sc).eraseDups.length != (swNm ts sc).length
def swOf (ts vs : List Expr) (sc : Scope) : Option (Option (List Str)) :=
  bif sw1 ts vs sc then some none else bif vs.any isStar then some none else bif sw3 ts sc then some none else bif vs.all (foldedForSure 8) then some none else bif vs.all (constantsAlone 8) then none else some (some (swNm ts sc))
def kbOk (c : TC) (f : Str) (n : Nat) (ks : List Str) (pm : List CA) : Bool := c.kbs.any fun b => b.f == f && b.n == n && b.ks == ks && (match b.pm, pm with | x, y => caEq x y)
where caEq : List CA → List CA → Bool
  | [], [] => true
  | .a i :: r, .a j :: t => i == j && caEq r t
  | .d .non :: r, .d .non :: t => caEq r t
  | .d (.int i) :: r, .d (.int j) :: t => decide (i = j) && caEq r t
  | .d (.bl i) :: r, .d (.bl j) :: t => (i == j) && caEq r t
  | .d (.str i) :: r, .d (.str j) :: t => decide (i = j) && caEq r t
  | _, _ => false
def kwNames (kws : List Keyword) : Option (List Str) := kws.mapM (·.arg)
def lcC (r : TC → Jb → Bool) (c : TC) (ws : List Nat) (tg : Tg) (it : IT) (cond : T) (elt : E) (xe xt xi : Expr) (xc : List Expr) (scope : Scope) : Bool :=
  blkC c.N c.sc scope (ownOf c ws) && tg.slots.all (ws.contains ·) && notSet xi && r c (.i it xi) && r (c.blk scope) (.g tg xt) && r (c.blk scope) (.c cond xc) && r (c.blk scope) (.e elt xe)
def lcoC (r : TC → Jb → Bool) (c : TC) (ws : List Nat) (tg : Tg) (i : Nat) (cond : T) (elt : E) (xe xt : Expr) (y : Str) (xc : List Expr) (scope : Scope) : Bool :=
  blkC c.N c.sc scope (ownOf c ws) && tg.slots.all (ws.contains ·) && (c.N[i]? == some y && isVis c y) && r (c.blk scope) (.g tg xt) && r (c.blk scope) (.c cond xc) && r (c.blk scope) (.e elt xe)
def lc2C (r : TC → Jb → Bool) (c : TC) (ws ws1 : List Nat) (tg : Tg) (it : IT) (cond : T) (tg1 : Tg) (it1 : IT) (cond1 : T) (elt : E) (xe xt xi : Expr) (xc : List Expr) (xt1 xi1 : Expr) (xc1 : List Expr) (scope : Scope) : Bool :=
  blkC c.N c.sc scope (ownOf c ws) && tg.slots.all (ws.contains ·) && tg1.slots.all (ws1.contains ·) && ws1.all (ws.contains ·) && notSet xi && notSet xi1 && r c (.i it xi) &&
    r (c.blk scope) (.g tg xt) && r (c.blk scope) (.c cond xc) && r (c.blk scope) (.i it1 xi1) && r (c.blk scope) (.g tg1 xt1) && r (c.blk scope) (.c cond1 xc1) && r (c.blk scope) (.e elt xe)
def dcC (r : TC → Jb → Bool) (c : TC) (ws : List Nat) (tg : Tg) (it : IT) (k v : E) (xk xv xt xi : Expr) (scope : Scope) : Bool :=
  blkC c.N c.sc scope (ownOf c ws) && tg.slots.all (ws.contains ·) && notSet xi && r c (.i it xi) && r (c.blk scope) (.g tg xt) && r (c.blk scope) (.e k xk) && r (c.blk scope) (.e v xv)
def stepE0 (r : TC → Jb → Bool) (c : TC) (m : E) (x : Expr) : Bool := match m, x with
  | .bad, _ => true
  | .c .non, .Constant .none _ _ => true
  | .c (.bl b), .Constant (.bool b') _ _ => b == b'
  | .c (.int i), .Constant (.int j) _ _ => decide (i = j)
  | .c (.str z), .Constant (.str w) _ _ => decide (z = w)
  | .var i, .Name y _ => c.N[i]? == some y && isVis c y
  | .bin op a b, .BinOp xa op' xb _ => decide (op = op') && opOk op && r c (.e a xa) && r c (.e b xb)
  | .neg a, .UnaryOp .USub xa _ => r c (.e a xa)
  | .not a, .UnaryOp .Not xa _ => r c (.e a xa)
  | .and a b, .BoolOp .And (xa :: xb :: w) _ => r c (.e a xa) && r c (.ea b .And (xb :: w))
  | .or a b, .BoolOp .Or (xa :: xb :: w) _ => r c (.e a xa) && r c (.ea b .Or (xb :: w))
  | .cmp op a b, .Compare xa [op'] [xb] _ => decide (op = op') && !behindInMarks op xb && r c (.e a xa) && r c (.e b xb)
  | .chain o1 o2 a b d, .Compare xa [p1, p2] [xb, xd] _ => decide (o1 = p1) && decide (o2 = p2) && !lastMarks [o1, o2] [xb, xd] && r c (.e a xa) && r c (.e b xb) && r c (.e d xd)
  | .ifx t a b, .IfExp xt xa xb _ => r c (.t t xt) && r c (.e a xa) && r c (.e b xb)
  | .tup es, .Tuple xs _ _ => r c (.l es xs)
  | .lst es, .List xs _ => r c (.l es xs)
  | .dnew _, .Dict [] [] _ => true
  | .sl a lo hi, .Subscript xa (.Slice xlo xhi none _) _ => r c (.e a xa) && r c (.o lo xlo) && r c (.o hi xhi)
  | .idx a b, .Subscript xa xb _ => notSlice xb && r c (.e a xa) && r c (.e b xb)
  | .call f as, .Call (.Name y _) xs [] _ => f == y && c.known f && c.posk f && isGl c f && r c (.l as xs)
  | .callp f pm as ks, .Call (.Name y _) xs kws _ => f == y && c.known f && isGl c f && (match kwNames kws with | some nm => kbOk c f as.len nm pm && ks.len == nm.length | none => false) && r c (.l as xs) && r c (.k ks kws)
  | .isi a t, .Call (.Name y _) [xa, .Name z _] [] _ => y == ("isinstance" : Str) && isGl c y && z == ctName t && isGl c z && !isStar xa && r c (.e a xa)
  | .blt .sortedSet (.cons a .nil), .Call (.Name y _) [.Call (.Name z _) [xa] [] _] [] _ => y == ("sorted" : Str) && isGl c y && z == ("set" : Str) && isGl c z && !isStar xa && r c (.e a xa)
  | .blt .lenSet (.cons a .nil), .Call (.Name y _) [.Call (.Name z _) [xa] [] _] [] _ => y == ("len" : Str) && isGl c y && z == ("set" : Str) && isGl c z && !isStar xa && r c (.e a xa)
  | .blt .listRg (.cons a .nil), .Call (.Name y _) [.Call (.Name z _) [xa] [] _] [] _ => y == ("list" : Str) && isGl c y && z == ("range" : Str) && isGl c z && !isStar xa && r c (.e a xa)
  | .blt .listRg (.cons a (.cons b .nil)), .Call (.Name y _) [.Call (.Name z _) [xa, xb] [] _] [] _ => y == ("list" : Str) && isGl c y && z == ("range" : Str) && isGl c z && !isStar xa && !isStar xb && r c (.e a xa) && r c (.e b xb)
  | .blt .tupRg (.cons a .nil), .Call (.Name y _) [.Call (.Name z _) [xa] [] _] [] _ => y == ("tuple" : Str) && isGl c y && z == ("range" : Str) && isGl c z && !isStar xa && r c (.e a xa)
  | .blt .tupRg (.cons a (.cons b .nil)), .Call (.Name y _) [.Call (.Name z _) [xa, xb] [] _] [] _ => y == ("tuple" : Str) && isGl c y && z == ("range" : Str) && isGl c z && !isStar xa && !isStar xb && r c (.e a xa) && r c (.e b xb)
  | .meth .get1 o (.cons a .nil), .Call (.Attribute xo z ap) [xa] [] pos => z == ("get" : Str) && ap.endLine == pos.line && notMod xo && !isStar xa && r c (.e o xo) && r c (.e a xa)
  | .dc ws tg it k v, .DictComp xk xv [⟨xt, xi, [], 0⟩] scope _ => dcC r c ws tg it k v xk xv xt xi scope
  | .blt f as, .Call (.Name y _) (xa :: xs) [] _ => bfName f == some y && isGl c y && r c (.l as (xa :: xs))
  | .mut m i as, .Call (.Attribute (.Name y _) a ap) xs [] pos => c.N[i]? == some y && isVis c y && a == mmName m && ap.endLine == pos.line && r c (.l as xs) && decide (xs.length < 3) && (match m, as.len with | .append, 1 => true | .extend, 1 => true | .pop, 0 => true | .popAt, 1 => true | .insert, 2 => true | .clear, 0 => true | _, _ => false)
  | .lc ws tg it cond elt, .ListComp xe [⟨xt, xi, xc, 0⟩] scope _ => lcC r c ws tg it cond elt xe xt xi xc scope
  | .lco ws tg i cond elt, .ListComp xe [⟨xt, .Name y _, xc, 0⟩] scope _ => lcoC r c ws tg i cond elt xe xt y xc scope
  | .lc2 ws ws1 tg it cond tg1 it1 cond1 elt, .ListComp xe [⟨xt, xi, xc, 0⟩, ⟨xt1, xi1, xc1, 0⟩] scope _ => lc2C r c ws ws1 tg it cond tg1 it1 cond1 elt xe xt xi xc xt1 xi1 xc1 scope
  | _, _ => false
/-- len(set(a)) of a tuple -/
def lenT (r : TC → Jb → Bool) (c : TC) (a : E) (x : Expr) : Bool := match x with
  | .Call (.Name y _) [.Call (.Name z _) [xa] [] _] [] _ => y == ("len" : Str) && isGl c y && z == ("set" : Str) && isGl c z && !isStar xa && r c (.e a xa)
  | _ => false
def stepE (r : TC → Jb → Bool) (c : TC) (m : E) (x : Expr) : Bool := match m with
  | .blt .lenSetT (.cons a .nil) => lenT r c a x
  | m => stepE0 r c m x
def stepEA (r : TC → Jb → Bool) (c : TC) (m : E) (op : BoolOp) (xs : List Expr) : Bool := match xs with
  | [x] => r c (.e m x)
  | xa :: xb :: w => match m, op with
    | .and a b, .And => r c (.e a xa) && r c (.ea b .And (xb :: w))
    | .or a b, .Or => r c (.e a xa) && r c (.ea b .Or (xb :: w))
    | _, _ => false
  | _ => false
def stepL (r : TC → Jb → Bool) (c : TC) (m : EL) (xs : List Expr) : Bool := match m, xs with
  | .nil, [] => true
  | .cons e w, x :: xs => !isStar x && r c (.e e x) && r c (.l w xs)
  | _, _ => false
def stepK (r : TC → Jb → Bool) (c : TC) (m : EL) (xs : List Keyword) : Bool := match m, xs with
  | .nil, [] => true
  | .cons e w, ⟨_, x, _⟩ :: xs => r c (.e e x) && r c (.k w xs)
  | _, _ => false
def stepO (r : TC → Jb → Bool) (c : TC) (m : OE) (x : Option Expr) : Bool := match m, x with
  | .no, none => true
  | .yes e, some x => r c (.e e x)
  | _, _ => false
def stepT (r : TC → Jb → Bool) (c : TC) (m : T) (x : Expr) : Bool := match m, x with
  | .e (.cmp op a b), .Compare xa [op'] [xb] _ => decide (op = op') && !behindInMarks op xb && r c (.e a xa) && r c (.e b xb)
  | .e (.chain o1 o2 a b d), .Compare xa [p1, p2] [xb, xd] _ => decide (o1 = p1) && decide (o2 = p2) && !lastMarks [o1, o2] [xb, xd] && r c (.e a xa) && r c (.e b xb) && r c (.e d xd)
  | .not t, .UnaryOp .Not x _ => r c (.t t x)
  | .and a b, .BoolOp .And (xa :: xb :: w) _ => r c (.t a xa) && r c (.ta b .And (xb :: w))
  | .or a b, .BoolOp .Or (xa :: xb :: w) _ => r c (.t a xa) && r c (.ta b .Or (xb :: w))
  | .e a, x => plainTest x && r c (.e a x)
  | _, _ => false
def stepTA (r : TC → Jb → Bool) (c : TC) (m : T) (op : BoolOp) (xs : List Expr) : Bool := match xs with
  | [x] => r c (.t m x)
  | xa :: xb :: w => match m, op with
    | .and a b, .And => r c (.t a xa) && r c (.ta b .And (xb :: w))
    | .or a b, .Or => r c (.t a xa) && r c (.ta b .Or (xb :: w))
    | _, _ => false
  | _ => false
def stepC (r : TC → Jb → Bool) (c : TC) (m : T) (xs : List Expr) : Bool := match m, xs with
  | .tt, [] => true
  | t, [x] => r c (.t t x)
  | _, _ => false
def stepI (r : TC → Jb → Bool) (c : TC) (m : IT) (x : Expr) : Bool := match m, x with
  | .rng1 a, .Call (.Name y _) [xa] [] _ => y == ("range" : Str) && isGl c y && !isStar xa && r c (.e a xa)
  | .rng2 a b, .Call (.Name y _) [xa, xb] [] _ => y == ("range" : Str) && isGl c y && !isStar xa && !isStar xb && r c (.e a xa) && r c (.e b xb)
  | .rng3 a b d, .Call (.Name y _) [xa, xb, xd] [] _ => y == ("range" : Str) && isGl c y && !isStar xa && !isStar xb && !isStar xd && r c (.e a xa) && r c (.e b xb) && r c (.e d xd)
  | .rev1 a, .Call (.Name z _) [.Call (.Name y _) [xa] [] _] [] _ => z == ("reversed" : Str) && isGl c z && y == ("range" : Str) && isGl c y && !isStar xa && r c (.e a xa)
  | .seq a, x => r c (.e a x)
  | _, _ => false
def stepG (r : TC → Jb → Bool) (c : TC) (m : Tg) (x : Expr) : Bool := match m, x with
  | .v i, .Name y _ => isTo c i y
  | .t is, .Tuple xs _ _ => r c (.gs is xs)
  | _, _ => false
def stepGS (r : TC → Jb → Bool) (c : TC) (m : List Nat) (xs : List Expr) : Bool := match m, xs with
  | [], [] => true
  | i :: w, .Name y _ :: xs => isTo c i y && r c (.gs w xs)
  | _, _ => false
def stepS (r : TC → Jb → Bool) (c : TC) (m : S) (x : Stmt) : Bool := match m, x with
  | .bad, _ => true
  | .asg (.v i) e, .Assign [.Name y py] xe _ => isTo c i y && (match swB c xe y py with
    | true => look c y == some .local && (match e, xe with
      | .lc ws tg it cond elt, .ListComp xe [⟨xt, xi, xc, 0⟩] scope _ => lcC r c ws tg it cond elt xe xt xi xc scope
      | .lc2 ws ws1 tg it cond tg1 it1 cond1 elt, .ListComp xe [⟨xt, xi, xc, 0⟩, ⟨xt1, xi1, xc1, 0⟩] scope _ => lc2C r c ws ws1 tg it cond tg1 it1 cond1 elt xe xt xi xc xt1 xi1 xc1 scope
      | _, _ => false)
    | false => (match xe with | .ListComp _ _ _ _ => true | .DictComp _ _ _ _ _ => true | x => notComp x) && r c (.e e xe))
  | .asg (.t is) e, .Assign [.Tuple xs k p] xe _ => r c (.g (.t is) (.Tuple xs k p)) && r c (.e e xe) && notComp xe && (notTuple xe || (match xe with | .Tuple vs _ _ => (match swOf xs vs c.sc with | some none => true | _ => false) | _ => false))
  | .par [i, j] es, .Assign [.Tuple [.Name y py, .Name z pz] kt pt] (.Tuple [xa, xb] _ _) _ => isTo c i y && isTo c j z && i != j && look c y == some .local && look c z == some .local && (swOf [.Name y py, .Name z pz] [xa, xb] c.sc == some (some [y, z])) && r c (.l es [xa, xb])
  | .par [i, j, l] es, .Assign [.Tuple [.Name y py, .Name z pz, .Name w pw] kt pt] (.Tuple [xa, xb, xd] _ _) _ => isTo c i y && isTo c j z && isTo c l w && i != j && i != l && j != l && look c y == some .local && look c z == some .local && look c w == some .local && (swOf [.Name y py, .Name z pz, .Name w pw] [xa, xb, xd] c.sc == some (some [y, z, w])) && r c (.l es [xa, xb, xd])
  | .sub i k e, .Assign [.Subscript (.Name y _) xk _] xe _ => c.N[i]? == some y && isVis c y && notSlice xk && notComp xe && r c (.e k xk) && r c (.e e xe)
  | .aug i .Add e, .AugAssign (.Name y _) .Add xe _ => isTo c i y && r c (.e e xe)
  | .pass, .Expr (.Constant (.str _) _ _) _ => true
  | .ex e, .Expr xe _ => notComp xe && r c (.e e xe)
  | .ife t a b, .If xt xa xb _ => r c (.t t xt) && r c (.ss a xa) && r c (.ss b xb)
  | .for_ tg it b, .For xt xi xb [] _ => notSet xi && r c (.g tg xt) && r c (.i it xi) && r c (.ss b xb)
  | .whl t b, .While xt xb [] _ => r c (.t t xt) && r c (.ss b xb)
  | .ret e, .Return (some xe) _ => r c (.e e xe)
  | .retn, .Return none _ => true
  | .brk, .Break _ => true
  | .cnt, .Continue _ => true
  | .pass, .Pass _ => true
  | _, _ => false
def stepSS (r : TC → Jb → Bool) (c : TC) (m : SL) (xs : List Stmt) : Bool := match m, xs with
  | .nil, [] => true
  | .cons s w, x :: xs => r c (.s s x) && r c (.ss w xs)
  | _, _ => false
def tie : Nat → TC → Jb → Bool
  | 0, _, _ => false
  | n + 1, c, j => match j with
    | .e m x => stepE (tie n) c m x
    | .ea m op xs => stepEA (tie n) c m op xs
    | .l m xs => stepL (tie n) c m xs
    | .k m xs => stepK (tie n) c m xs
    | .o m x => stepO (tie n) c m x
    | .t m x => stepT (tie n) c m x
    | .ta m op xs => stepTA (tie n) c m op xs
    | .c m xs => stepC (tie n) c m xs
    | .i m x => stepI (tie n) c m x
    | .g m x => stepG (tie n) c m x
    | .gs m xs => stepGS (tie n) c m xs
    | .s m x => stepS (tie n) c m x
    | .ss m xs => stepSS (tie n) c m xs
end Q
end
section
set_option maxHeartbeats 4000000
namespace Q
open PySem PySem.Spec PyProof.Rows
open L2 hiding cutV
/-! ### set(xs) of a list of numbers -/
abbrev nob (w : World) : Obj := { cls := .type "set", dict := none, data := .set #[] 0 (.fresh 0 0 (!w.params.followText "set-order")) }
section
variable {P : Program} {w : World} {A : Around} {E : Value → Shared → Prop} {s : Shared}
theorem set_listI {l : Addr} {its : Array Value} (ns : List Int) {Qk : Value → Shared → Prop} (hh : A.handled = none) (hl : s.heap.IsList l its) (hit : IntsAre its.toList ns) (hb : ns.length + 1 < scanBound)
    (h : ∀ (h' : Heap) (tk c : Nat), SetR w h' s.heap.objs.size (fun j => decide (j ∈ ns)) c → c ≤ ns.length → (∀ b o, s.heap.get? b = some o → h'.get? b = some o) → Qk (.ref s.heap.objs.size) { s with heap := h', toks := tk }) : wpAny (model P w) A (call (.type "set") [.ref l]) Qk E s := by
  have hisz : its.size = ns.length := by
    have z := IntsAre.length hit
    rwa [Array.length_toList] at z
  obtain ⟨c, tl, mro⟩ := F.called_set.mro
  have g1 := F.called_set.made
  have g2 := F.called_set.sub
  refine wpAny_call (codeAny_of_tree ?_)
  change wpAny _ _ (callAny (.type "set") _) _ _ _
  refine wpAny_pure ⟨Code.quiet_builtin _ (by decide +kernel), ?_⟩
  refine codeAny_builtin F.entry_type_call ?_
  rw [Around.under_plain (weight_type_call_type "set" [.ref l] []) rfl]
  have g3 := F.called_set.notType
  have g4 := F.called_set.canCreate
  have g5 := F.typeCall_set_1 (.ref l)
  repeat (any_goals (first | assumption | wp_step))
  refine codeAny_mono (code_set_led1 (.ref l) (E := E) (Q₁ := fun ob t => ob = .ref s.heap.objs.size ∧ t = { s with heap := s.heap.push (nob w) }) ⟨rfl, rfl⟩) fun r t hr => ?_
  cases r with
  | error e => exact hr
  | ok fl =>
    cases fl with
    | ret ob =>
      obtain ⟨rfl, rfl⟩ := hr
      have hS : (s.heap.push (nob w)).get? s.heap.objs.size = some (nob w) := Heap.get?_push_size _ rfl
      have hT : Shared.TypeIs { s with heap := s.heap.push (nob w) } (.ref s.heap.objs.size) "set" := ⟨_, hS, rfl⟩
      have g6 := F.called_set.init.lookup
      have g7 := F.called_set.init.bind (.ref s.heap.objs.size)
      repeat (any_goals (first | assumption | wp_step))
      refine codeAny_mono (codeAny_call_builtin (R := wants (fun r t => r = .none ∧ ∃ h' tk c, t = { s with heap := h', toks := tk } ∧ SetR w h' s.heap.objs.size (fun j => decide (j ∈ ns)) c ∧ c ≤ ns.length ∧ ∀ b o, s.heap.get? b = some o → h'.get? b = some o) E) F.called_set.init.plain F.entry_set_init (check_set_init_1 hT ?_)) fun r t hr => ?_
      · obtain ⟨ol, hol, hcl, nl, hdl⟩ := hl
        obtain ⟨oc, od, oa, os⟩ := ol
        dsimp only at hcl hdl; subst hcl; subst hdl
        have hol' : (s.heap.push (nob w)).get? l = some { cls := .type "list", dict := od, data := .seq its nl, slots := os } := Heap.get?_push_of_some _ hol
        have k1 := F.sub_list_set
        have k2 := F.sub_list_frozenset
        have k3 : (Value.type "list" == Value.type "dict") = false := by decide
        have hl1 : (s.heap.push (nob w)).IsList l its := ⟨_, hol', rfl, nl, rfl⟩
        unfold Builtin.«set.__init__» noKeywords Builtin.Frozenset.updateFrom
        generalize hPI : pyIter = PI
        wp_walk; subst hPI
        refine wpAny_pyIter_list hl1 ?_; refine wpAny_bind (wpAny_runValue ?_)
        have hlS : l < s.heap.objs.size := Heap.lt_size hol
        have hh3 : A.in1.in1.in1.handled = none := by simp [hh]
        have hz : (s.heap.push (nob w)).objs.size = s.heap.objs.size + 1 := Heap.size_push ..
        have hneI : l ≠ (s.heap.push (nob w)).objs.size := fun e => absurd (e.trans hz) (Nat.ne_of_lt (Nat.lt_succ_of_lt hlS))
        have hSf : s.heap.objs.size ∉ [(s.heap.push (nob w)).objs.size, l] := by
          intro m
          rcases List.mem_cons.mp m with m | m
          · exact absurd (m.trans hz) (Nat.ne_of_lt (Nat.lt_succ_self _))
          · exact absurd (List.mem_singleton.mp m) (Nat.ne_of_gt hlS)
        have hval : ∀ (i : Nat) (v : Value), its[i]? = some v → ∃ k t, ns[i]? = some k ∧ v = .int k t := fun i v hv => by
          have hi : i < ns.length := by
            rw [← hisz]
            exact (Array.getElem?_eq_some_iff.mp hv).1
          obtain ⟨t, e⟩ := IntsAre.int_at hit i v (by rw [Array.getElem?_toList]; exact hv)
          refine ⟨ns[i], t, by simp [hi], ?_⟩
          rw [e]
          simp [hi]
        refine set_update_ints ((Walks.list hh3 _ l hneI its).toS) s.heap.objs.size hSf ns hisz hb hval (its.size - 0) 0 _ (by omega) (Nat.zero_le _) ⟨⟨_, Heap.get?_push_size _ rfl, rfl, rfl⟩, (hl1.push _)⟩ ?hS0 ?hR
        case hS0 => exact ⟨0, Nat.le_refl 0, setR_new_at (Heap.get?_push_of_some _ hS)⟩
        case hR =>
          intro t c' hm hc' hS'
          obtain ⟨h', g, d, tk, os'⟩ := t
          have e1 : g = s.gens := hm.gens
          have e2 : d = s.drawn := hm.drawn
          have e3 : os' = s.os := hm.os
          subst e1; subst e2; subst e3
          change wpAny _ _ _ _ _ _
          refine wpAny_pure ?_
          change wpAny _ _ (ret Value.none) _ _ _
          rw [hisz] at hc'
          refine wpAny_pure ⟨rfl, h', tk, c', rfl, hS', hc', fun b o e => ?_⟩
          have hb0 : b < s.heap.objs.size := Heap.lt_size e
          refine hm.heap b o (fun m => ?_) (Heap.get?_push_of_some _ (Heap.get?_push_of_some _ e))
          rcases List.mem_cons.mp m with m | m
          · exact absurd m (Nat.ne_of_lt hb0)
          · exact absurd ((List.mem_singleton.mp m).trans hz) (Nat.ne_of_lt (Nat.lt_succ_of_lt hb0))
      · cases r with
        | error e => exact hr
        | ok fl =>
          cases fl with
          | ret r =>
            obtain ⟨rfl, h', tk, c', rfl, q1, q2, q3⟩ := hr
            repeat (any_goals (first | assumption | wp_step))
            exact h _ _ _ q1 q2 q3
          | _ => exact hr.elim
    | _ => exact hr.elim
theorem set_tupI {l : Addr} {its : Array Value} (ns : List Int) {Qk : Value → Shared → Prop} (hh : A.handled = none) (hl : s.heap.IsTuple l its) (hit : IntsAre its.toList ns) (hb : ns.length + 1 < scanBound)
    (h : ∀ (h' : Heap) (tk c : Nat), SetR w h' s.heap.objs.size (fun j => decide (j ∈ ns)) c → c ≤ ns.length → (∀ b o, s.heap.get? b = some o → h'.get? b = some o) → Qk (.ref s.heap.objs.size) { s with heap := h', toks := tk }) : wpAny (model P w) A (call (.type "set") [.ref l]) Qk E s := by
  have hisz : its.size = ns.length := by
    have z := IntsAre.length hit
    rwa [Array.length_toList] at z
  obtain ⟨c, tl, mro⟩ := F.called_set.mro
  have g1 := F.called_set.made
  have g2 := F.called_set.sub
  refine wpAny_call (codeAny_of_tree ?_)
  change wpAny _ _ (callAny (.type "set") _) _ _ _
  refine wpAny_pure ⟨Code.quiet_builtin _ (by decide +kernel), ?_⟩
  refine codeAny_builtin F.entry_type_call ?_
  rw [Around.under_plain (weight_type_call_type "set" [.ref l] []) rfl]
  have g3 := F.called_set.notType
  have g4 := F.called_set.canCreate
  have g5 := F.typeCall_set_1 (.ref l)
  repeat (any_goals (first | assumption | wp_step))
  refine codeAny_mono (code_set_led1 (.ref l) (E := E) (Q₁ := fun ob t => ob = .ref s.heap.objs.size ∧ t = { s with heap := s.heap.push (nob w) }) ⟨rfl, rfl⟩) fun r t hr => ?_
  cases r with
  | error e => exact hr
  | ok fl =>
    cases fl with
    | ret ob =>
      obtain ⟨rfl, rfl⟩ := hr
      have hS : (s.heap.push (nob w)).get? s.heap.objs.size = some (nob w) := Heap.get?_push_size _ rfl
      have hT : Shared.TypeIs { s with heap := s.heap.push (nob w) } (.ref s.heap.objs.size) "set" := ⟨_, hS, rfl⟩
      have g6 := F.called_set.init.lookup
      have g7 := F.called_set.init.bind (.ref s.heap.objs.size)
      repeat (any_goals (first | assumption | wp_step))
      refine codeAny_mono (codeAny_call_builtin (R := wants (fun r t => r = .none ∧ ∃ h' tk c, t = { s with heap := h', toks := tk } ∧ SetR w h' s.heap.objs.size (fun j => decide (j ∈ ns)) c ∧ c ≤ ns.length ∧ ∀ b o, s.heap.get? b = some o → h'.get? b = some o) E) F.called_set.init.plain F.entry_set_init (check_set_init_1 hT ?_)) fun r t hr => ?_
      · obtain ⟨ol, hol, hcl, nl, hdl⟩ := hl
        obtain ⟨oc, od, oa, os⟩ := ol
        dsimp only at hcl hdl; subst hcl; subst hdl
        have hol' : (s.heap.push (nob w)).get? l = some { cls := .type "tuple", dict := od, data := .seq its nl, slots := os } := Heap.get?_push_of_some _ hol
        have k1 := F.sub_tuple_set
        have k2 := F.sub_tuple_frozenset
        have k3 : (Value.type "tuple" == Value.type "dict") = false := by decide
        have hl1 : (s.heap.push (nob w)).IsTuple l its := ⟨_, hol', rfl, nl, rfl⟩
        unfold Builtin.«set.__init__» noKeywords Builtin.Frozenset.updateFrom
        generalize hPI : pyIter = PI
        wp_walk; subst hPI
        refine wpAny_pyIter_tuple hl1 ?_; refine wpAny_bind (wpAny_runValue ?_)
        have hlS : l < s.heap.objs.size := Heap.lt_size hol
        have hh3 : A.in1.in1.in1.handled = none := by simp [hh]
        have hz : (s.heap.push (nob w)).objs.size = s.heap.objs.size + 1 := Heap.size_push ..
        have hneI : l ≠ (s.heap.push (nob w)).objs.size := fun e => absurd (e.trans hz) (Nat.ne_of_lt (Nat.lt_succ_of_lt hlS))
        have hSf : s.heap.objs.size ∉ [(s.heap.push (nob w)).objs.size, l] := by
          intro m
          rcases List.mem_cons.mp m with m | m
          · exact absurd (m.trans hz) (Nat.ne_of_lt (Nat.lt_succ_self _))
          · exact absurd (List.mem_singleton.mp m) (Nat.ne_of_gt hlS)
        have hval : ∀ (i : Nat) (v : Value), its[i]? = some v → ∃ k t, ns[i]? = some k ∧ v = .int k t := fun i v hv => by
          have hi : i < ns.length := by
            rw [← hisz]
            exact (Array.getElem?_eq_some_iff.mp hv).1
          obtain ⟨t, e⟩ := IntsAre.int_at hit i v (by rw [Array.getElem?_toList]; exact hv)
          refine ⟨ns[i], t, by simp [hi], ?_⟩
          rw [e]
          simp [hi]
        refine set_update_ints ((Walks.tuple hh3 _ l hneI its).toS) s.heap.objs.size hSf ns hisz hb hval (its.size - 0) 0 _ (by omega) (Nat.zero_le _) ⟨⟨_, Heap.get?_push_size _ rfl, rfl, rfl⟩, (hl1.push _)⟩ ?hS0 ?hR
        case hS0 => exact ⟨0, Nat.le_refl 0, setR_new_at (Heap.get?_push_of_some _ hS)⟩
        case hR =>
          intro t c' hm hc' hS'
          obtain ⟨h', g, d, tk, os'⟩ := t
          have e1 : g = s.gens := hm.gens
          have e2 : d = s.drawn := hm.drawn
          have e3 : os' = s.os := hm.os
          subst e1; subst e2; subst e3
          change wpAny _ _ _ _ _ _
          refine wpAny_pure ?_
          change wpAny _ _ (ret Value.none) _ _ _
          rw [hisz] at hc'
          refine wpAny_pure ⟨rfl, h', tk, c', rfl, hS', hc', fun b o e => ?_⟩
          have hb0 : b < s.heap.objs.size := Heap.lt_size e
          refine hm.heap b o (fun m => ?_) (Heap.get?_push_of_some _ (Heap.get?_push_of_some _ e))
          rcases List.mem_cons.mp m with m | m
          · exact absurd m (Nat.ne_of_lt hb0)
          · exact absurd ((List.mem_singleton.mp m).trans hz) (Nat.ne_of_lt (Nat.lt_succ_of_lt hb0))
      · cases r with
        | error e => exact hr
        | ok fl =>
          cases fl with
          | ret r =>
            obtain ⟨rfl, h', tk, c', rfl, q1, q2, q3⟩ := hr
            repeat (any_goals (first | assumption | wp_step))
            exact h _ _ _ q1 q2 q3
          | _ => exact hr.elim
    | _ => exact hr.elim
end
/-! ### distinct, sorted -/
theorem dedup_mem : ∀ {l : List Int} {x : Int}, x ∈ dedup l ↔ x ∈ l
  | [], _ => by simp [dedup]
  | y :: r, x => by
    rw [dedup, List.mem_cons, List.mem_filter, dedup_mem, List.mem_cons]
    by_cases e : x = y
    · simp [e]
    · simp [e]
theorem dedup_nodup : ∀ l : List Int, (dedup l).Nodup
  | [] => List.Pairwise.nil
  | y :: r => by
    rw [dedup, List.nodup_cons]
    refine ⟨fun h => ?_, (dedup_nodup r).filter _⟩
    have := (List.mem_filter.mp h).2
    simp at this
theorem nodup_len {α : Type} [BEq α] [LawfulBEq α] {l k : List α} (h1 : l.Nodup) (h2 : k.Nodup) (h : ∀ x, x ∈ l ↔ x ∈ k) : l.length = k.length := ((List.perm_ext_iff_of_nodup h1 h2).mpr h).length_eq
theorem insI_mem {x y : Int} : ∀ {l : List Int}, y ∈ insI x l ↔ y = x ∨ y ∈ l
  | [] => by simp [insI]
  | z :: r => by
    rw [insI]
    split
    · simp
    · split
      · rename_i e
        subst e
        simp
      · rw [List.mem_cons, insI_mem, List.mem_cons]
        constructor
        · rintro (h | h | h)
          · exact .inr (.inl h)
          · exact .inl h
          · exact .inr (.inr h)
        · rintro (h | h | h)
          · exact .inr (.inl h)
          · exact .inl h
          · exact .inr (.inr h)
theorem insI_sorted {x : Int} : ∀ {l : List Int}, l.Pairwise (· < ·) → (insI x l).Pairwise (· < ·)
  | [], _ => by simp [insI]
  | z :: r, h => by
    obtain ⟨h1, h2⟩ := List.pairwise_cons.mp h
    rw [insI]
    split
    · rename_i c
      refine List.pairwise_cons.mpr ⟨fun y hy => ?_, h⟩
      rcases List.mem_cons.mp hy with rfl | hy
      · exact c
      · have := h1 y hy
        omega
    · split
      · exact h
      · refine List.pairwise_cons.mpr ⟨fun y hy => ?_, insI_sorted h2⟩
        rcases insI_mem.mp hy with rfl | hy
        · omega
        · exact h1 y hy
theorem sortI_mem {l : List Int} {y : Int} : y ∈ sortI l ↔ y ∈ l := by
  unfold sortI
  induction l with
  | nil => simp
  | cons x r ih => rw [List.foldr_cons, insI_mem, ih, List.mem_cons]
theorem sortI_sorted (l : List Int) : (sortI l).Pairwise (· < ·) := by
  unfold sortI
  induction l with
  | nil => exact .nil
  | cons x r ih => exact insI_sorted ih
/-- ascending lists of the same members are the same -/
theorem asc_ext {α : Type} {R : α → α → Prop} (irr : ∀ a, ¬ R a a) (tr : ∀ a b, R a b → ¬ R b a) : ∀ {l k : List α}, l.Pairwise R → k.Pairwise R → (∀ x, x ∈ l ↔ x ∈ k) → l = k
  | [], [], _, _, _ => rfl
  | [], y :: k, _, _, h => absurd ((h y).mpr (List.mem_cons_self ..)) (by simp)
  | x :: l, [], _, _, h => absurd ((h x).mp (List.mem_cons_self ..)) (by simp)
  | x :: l, y :: k, p, q, h => by
    obtain ⟨p1, p2⟩ := List.pairwise_cons.mp p
    obtain ⟨q1, q2⟩ := List.pairwise_cons.mp q
    have e : x = y := by
      rcases List.mem_cons.mp ((h x).mp (List.mem_cons_self ..)) with e | m
      · exact e
      · rcases List.mem_cons.mp ((h y).mpr (List.mem_cons_self ..)) with e | n
        · exact e.symm
        · exact absurd (q1 x m) (tr _ _ (p1 y n))
    subst e
    refine congrArg _ (asc_ext irr tr p2 q2 fun z => ?_)
    constructor
    · intro m
      rcases List.mem_cons.mp ((h z).mp (List.mem_cons_of_mem _ m)) with e | n
      · subst e; exact absurd (p1 z m) (irr z)
      · exact n
    · intro m
      rcases List.mem_cons.mp ((h z).mpr (List.mem_cons_of_mem _ m)) with e | n
      · subst e; exact absurd (q1 z m) (irr z)
      · exact n
theorem sorted_is {ns l : List Int} (h1 : l.Pairwise (· < ·)) (h2 : ∀ k, k ∈ l ↔ k ∈ ns) : l = sortI ns :=
  asc_ext (R := (· < ·)) (fun a => by omega) (fun a b h => by omega) h1 (sortI_sorted ns) fun x => by rw [h2, sortI_mem]
/-! the rules -/
def rSetI (K : PySem.W.Frag) (w : World) : List V → Hp → VK → Prop := fun vs H Qk => ∃ (l : Addr) (ns : List Int), vs = [.ref l] ∧ SqL K H l (ns.map V.int) ∧ ns.length < 64 ∧ ∀ a, H a = none → Qk (.ref a) (upd H a (SetO w a (fun j => decide (j ∈ ns)) (dedup ns).length))
theorem setR_count {w : World} {h : Heap} {a : Addr} {ns : List Int} {c : Nat} (R : SetR w h a (fun j => decide (j ∈ ns)) c) : c = (dedup ns).length := by
  obtain ⟨o, es, ep, t, ho, hex, hd, g, nd, hm, hb, hf, hn, _⟩ := R
  have := nodup_len nd (dedup_nodup ns) fun x => by rw [dedup_mem, ← hm x]; simp
  rw [← hn, ← this, List.length_map, Array.length_toList]
section
variable {X : Cx}
theorem cSetI (hc : X.calm = true) : CallR X (.type "set") (rSetI X.K X.w) := by
  intro pins s σ H vs us Qk I r h
  obtain ⟨l, ns, rfl, hl, hf, q⟩ := h
  rw [Vals.ref1 r]
  obtain ⟨its, rv, pl, hz⟩ := I.list hl
  have hn : H s.heap.objs.size = none := I.hok.fresh (Nat.le_refl _)
  refine set_listI (P := X.prog) (w := X.w) ns (I.ok.hd hc) pl.isList (by simpa using rv.ints) (by unfold scanBound; omega) fun h' tk c R hcn k => ?_
  have e := setR_count R
  subst e
  exact ⟨.ref s.heap.objs.size, upd H s.heap.objs.size _, I.laid (t' := tk) k (Nat.le_refl _) (setO_new R), rfl, q _ hn⟩
def rSetIT (K : PySem.W.Frag) (w : World) : List V → Hp → VK → Prop := fun vs H Qk => ∃ (l : Addr) (ns : List Int), vs = [.ref l] ∧ SqT K H l (ns.map V.int) ∧ ns.length < 64 ∧ ∀ a, H a = none → Qk (.ref a) (upd H a (SetO w a (fun j => decide (j ∈ ns)) (dedup ns).length))
theorem cSetIT (hc : X.calm = true) : CallR X (.type "set") (rSetIT X.K X.w) := by
  intro pins s σ H vs us Qk I r h
  obtain ⟨l, ns, rfl, hl, hf, q⟩ := h
  rw [Vals.ref1 r]
  obtain ⟨its, rv, pl, hz⟩ := I.tuple hl
  have hn : H s.heap.objs.size = none := I.hok.fresh (Nat.le_refl _)
  refine set_tupI (P := X.prog) (w := X.w) ns (I.ok.hd hc) (show s.heap.IsTuple l its.toArray from pl) (by simpa using rv.ints) (by unfold scanBound; omega) fun h' tk c R hcn k => ?_
  have e := setR_count R
  subst e
  exact ⟨.ref s.heap.objs.size, upd H s.heap.objs.size _, I.laid (t' := tk) k (Nat.le_refl _) (setO_new R), rfl, q _ hn⟩
def rLenS (w : World) : List V → Hp → VK → Prop := fun vs H Qk => ∃ (a : Addr) (S : Int → Bool) (n : Nat), vs = [.ref a] ∧ H a = some (SetO w a S n) ∧ n < 64 ∧ Qk (.int n) H
theorem cLenS : CallR X (.builtin "len") (rLenS X.w) := by
  intro pins s σ H vs us Qk I r h
  obtain ⟨a, S, n, rfl, ha, hn, q⟩ := h
  rw [Vals.ref1 r]
  obtain ⟨o, es, ep, t, ho, hex, hd, _, _, _, _, hf, e, _⟩ := setO_get I ha
  exact call_len_set ho hex hd hf (by rw [e]; omega) ⟨.int n, H, I.tok _, ⟨_, by rw [e]⟩, q⟩
end
end Q
end
section
set_option maxHeartbeats 2000000
namespace Q
open PySem PySem.Spec PyProof.Rows
open L2 hiding cutV
/-! ### tuples of numbers -/
section
variable {K : PySem.W.Frag} {H : Hp} {M : Addr → Prop} {γ : Gm}
theorem reps_ints : ∀ {xs : List PV} {vs : List V} {ns : List Int}, Reps K H M γ vs xs → intsOf xs = some ns → vs = ns.map V.int ∧ xs = ns.map PV.int
  | [], _, _, .nil, e => by cases e; exact ⟨rfl, rfl⟩
  | x :: xs, _, _, .cons a b, e => by
    unfold intsOf at e
    split at e
    · cases ‹_ = []›
    · rename_i i r q
      cases q
      obtain ⟨ns, e1, rfl⟩ := Option.map_eq_some_iff.mp e
      cases a
      obtain ⟨h1, h2⟩ := reps_ints b e1
      rw [h1, h2]
      exact ⟨rfl, rfl⟩
    · cases e
theorem reps_tups : ∀ {xs : List PV} {vs : List V} {ts : List (List Int)}, Reps K H M γ vs xs → tupsOf xs = some ts → ∃ ks : List (Addr × List Int), vs = ks.map (fun p => V.ref p.1) ∧ ks.map (·.2) = ts ∧ ∀ p ∈ ks, H p.1 = some (.tup (p.2.map V.int)) ∧ Rep K H M γ (.ref p.1) (.tup (p.2.map .int))
  | [], _, _, .nil, e => by
    cases e
    exact ⟨[], rfl, rfl, fun p h => by cases h⟩
  | x :: xs, _, _, .cons a b, e => by
    unfold tupsOf at e
    split at e
    · cases ‹_ = []›
    · rename_i ys r q
      cases q
      split at e
      · rename_i u w e1 e2
        cases e
        cases a with
        | tup h n rs =>
          obtain ⟨z1, z2⟩ := reps_ints rs e1
          obtain ⟨ks, h1, h2, h3⟩ := reps_tups b e2
          refine ⟨(_, u) :: ks, by rw [h1]; rfl, by rw [← h2]; rfl, fun p hp => ?_⟩
          rcases List.mem_cons.mp hp with rfl | hp
          · dsimp only
            rw [← z1, ← z2]
            exact ⟨h, .tup h n rs⟩
          · exact h3 p hp
      · cases e
    · cases e
end
theorem code_lex {B : Int} : ∀ {a b : List Int}, a.length = b.length → TS.Bd B a → TS.Bd B b → (TS.code B a < TS.code B b ↔ HT.lexLt a b = true)
  | [], [], _, _, _ => by simp [TS.code, HT.lexLt]
  | x :: a, y :: b, hl, h1, h2 => by
    have hl' : a.length = b.length := by simpa using hl
    rw [HT.lexLt_cons]
    by_cases e : x = y
    · subst e
      rw [if_pos rfl, TS.code_same hl', code_lex hl' h1.tail h2.tail]
    · rw [if_neg e, decide_eq_true_eq]
      constructor
      · intro h
        by_cases q : x < y
        · exact q
        · have := TS.code_lt hl'.symm h2.tail h1.tail (show y < x by omega)
          omega
      · exact TS.code_lt hl' h1.tail h2.tail
theorem lexLt_irr : ∀ a : List Int, HT.lexLt a a = false
  | [] => rfl
  | x :: a => by rw [HT.lexLt_cons, if_pos rfl, lexLt_irr a]
theorem lexLt_asy : ∀ {a b : List Int}, HT.lexLt a b = true → HT.lexLt b a = false
  | [], [], h => rfl
  | [], y :: b, h => rfl
  | x :: a, [], h => by cases h
  | x :: a, y :: b, h => by
    rw [HT.lexLt_cons] at h
    rw [HT.lexLt_cons]
    by_cases e : x = y
    · subst e
      rw [if_pos rfl] at h
      rw [if_pos rfl, lexLt_asy h]
    · rw [if_neg e, decide_eq_true_eq] at h
      rw [if_neg (fun z => e z.symm)]
      simp
      omega
theorem lexLt_tot : ∀ {a b : List Int}, HT.lexLt a b = false → a ≠ b → HT.lexLt b a = true
  | [], [], h, n => absurd rfl n
  | [], y :: b, h, n => by cases h
  | x :: a, [], h, n => rfl
  | x :: a, y :: b, h, n => by
    rw [HT.lexLt_cons] at h
    rw [HT.lexLt_cons]
    by_cases e : x = y
    · subst e
      rw [if_pos rfl] at h
      rw [if_pos rfl]
      exact lexLt_tot h fun z => n (by rw [z])
    · rw [if_neg e, decide_eq_false_iff_not] at h
      rw [if_neg (fun z => e z.symm)]
      simp
      omega
theorem lexLt_trans : ∀ {a b c : List Int}, HT.lexLt a b = true → HT.lexLt b c = true → HT.lexLt a c = true
  | [], [], _, h, _ => by cases h
  | [], y :: b, [], _, h => by cases h
  | [], y :: b, z :: c, _, _ => rfl
  | x :: a, [], _, h, _ => by cases h
  | x :: a, y :: b, [], _, h => by cases h
  | x :: a, y :: b, z :: c, h, k => by
    rw [HT.lexLt_cons] at *
    by_cases e : x = y
    · subst e
      rw [if_pos rfl] at h
      by_cases e2 : x = z
      · subst e2
        rw [if_pos rfl] at k ⊢
        exact lexLt_trans h k
      · rw [if_neg e2] at k ⊢
        exact k
    · rw [if_neg e, decide_eq_true_eq] at h
      by_cases e2 : y = z
      · subst e2
        rw [if_neg e, decide_eq_true_eq]
        exact h
      · rw [if_neg e2, decide_eq_true_eq] at k
        rw [if_neg (by omega), decide_eq_true_eq]
        omega
theorem insT_mem {x y : List Int} : ∀ {l : List (List Int)}, y ∈ insT x l ↔ y = x ∨ y ∈ l
  | [] => by simp [insT]
  | z :: r => by
    rw [insT]
    split
    · simp
    · split
      · rename_i e
        subst e
        simp
      · rw [List.mem_cons, insT_mem, List.mem_cons]
        constructor
        · rintro (h | h | h)
          · exact .inr (.inl h)
          · exact .inl h
          · exact .inr (.inr h)
        · rintro (h | h | h)
          · exact .inr (.inl h)
          · exact .inl h
          · exact .inr (.inr h)
theorem insT_sorted {x : List Int} : ∀ {l : List (List Int)}, l.Pairwise (fun a b => HT.lexLt a b = true) → (insT x l).Pairwise (fun a b => HT.lexLt a b = true)
  | [], _ => by simp [insT]
  | z :: r, h => by
    obtain ⟨h1, h2⟩ := List.pairwise_cons.mp h
    rw [insT]
    split
    · rename_i c
      refine List.pairwise_cons.mpr ⟨fun y hy => ?_, h⟩
      rcases List.mem_cons.mp hy with rfl | hy
      · exact c
      · exact lexLt_trans c (h1 y hy)
    · rename_i c
      split
      · exact h
      · rename_i ne
        refine List.pairwise_cons.mpr ⟨fun y hy => ?_, insT_sorted h2⟩
        rcases insT_mem.mp hy with rfl | hy
        · exact lexLt_tot (by simpa using c) ne
        · exact h1 y hy
theorem sortT_mem {l : List (List Int)} {y : List Int} : y ∈ sortT l ↔ y ∈ l := by
  unfold sortT
  induction l with
  | nil => simp
  | cons x r ih => rw [List.foldr_cons, insT_mem, ih, List.mem_cons]
theorem sortT_sorted (l : List (List Int)) : (sortT l).Pairwise (fun a b => HT.lexLt a b = true) := by
  unfold sortT
  induction l with
  | nil => exact .nil
  | cons x r ih => exact insT_sorted ih
theorem sortT_is {l ts : List (List Int)} (h1 : l.Pairwise (fun a b => HT.lexLt a b = true)) (h2 : ∀ k, k ∈ l ↔ k ∈ ts) : l = sortT ts :=
  asc_ext (R := fun a b => HT.lexLt a b = true) (fun a => by rw [lexLt_irr]; simp) (fun a b h => by rw [lexLt_asy h]; simp) h1 (sortT_sorted ts) fun x => by rw [h2, sortT_mem]
theorem dedupT_mem : ∀ {l : List (List Int)} {x : List Int}, x ∈ dedupT l ↔ x ∈ l
  | [], _ => by simp [dedupT]
  | y :: r, x => by
    rw [dedupT, List.mem_cons, List.mem_filter, dedupT_mem, List.mem_cons]
    by_cases e : x = y
    · simp [e]
    · simp [e]
theorem dedupT_nodup : ∀ l : List (List Int), (dedupT l).Nodup
  | [] => List.Pairwise.nil
  | y :: r => by
    rw [dedupT, List.nodup_cons]
    refine ⟨fun h => ?_, (dedupT_nodup r).filter _⟩
    have := (List.mem_filter.mp h).2
    simp at this
theorem tupsOk_bd {ts : List (List Int)} (h : tupsOk ts = true) (hne : ts ≠ []) : ts.length < 64 ∧ ∃ d, 1 ≤ d ∧ ∀ t ∈ ts, t.length = d ∧ TS.Bd 64 t := by
  unfold tupsOk at h
  cases ts with
  | nil => exact absurd rfl hne
  | cons t r =>
    simp only [Bool.and_eq_true, decide_eq_true_eq, List.all_eq_true] at h
    obtain ⟨h1, h2, h3⟩ := h
    exact ⟨h1, t.length, h2, fun u hu => ⟨(h3 u hu).1, fun m hm => (h3 u hu).2 m hm⟩⟩
/-! ### sorted(set(xs)), len(set(xs)) -/
section
variable {X : Cx}
def rSetA (K : PySem.W.Frag) (P : Program) (w : World) : List V → Hp → VK → Prop := fun vs H Qk => rSetI K w vs H Qk ∨ rSetOfT K P w vs H Qk
theorem cSetA (hc : X.calm = true) (hu : X.A.units + 64 < cLine) : CallR X (.type "set") (rSetA X.K X.prog X.w) := by
  intro pins s σ H vs us Qk I r h
  rcases h with h | h
  · exact cSetI hc pins s σ H vs us Qk I r h
  · exact cr_setOfT hc hu pins s σ H vs us Qk I r h
def rSortA (K : PySem.W.Frag) (P : Program) (w : World) : List V → Hp → VK → Prop := fun vs H Qk => rSortedSet w vs H Qk ∨ rSortedT K P w vs H Qk
theorem cSortA (hc : X.calm = true) : CallR X (.builtin "sorted") (rSortA X.K X.prog X.w) := by
  intro pins s σ H vs us Qk I r h
  rcases h with h | h
  · exact cr_sortedSet hc pins s σ H vs us Qk I r h
  · exact cr_sortedT hc pins s σ H vs us Qk I r h
def rLenT (K : PySem.W.Frag) (P : Program) (w : World) : List V → Hp → VK → Prop := fun vs H Qk => ∃ (a : Addr) (L : List (Addr × List Int)), vs = [.ref a] ∧ H a = some (SetTO P w a L) ∧ (∀ p ∈ L, SqT K H p.1 (p.2.map V.int)) ∧ ((L.map (·.2)).Nodup → Qk (.int L.length) H)
theorem cLenT : CallR X (.builtin "len") (rLenT X.K X.prog X.w) := by
  intro pins s σ H vs us Qk I r h
  obtain ⟨a, L, rfl, ha, hk, q⟩ := h
  rw [Vals.ref1 r]
  have R0 : SetT0 X.prog X.w s.heap a L := (I.hok a _ ha).1
  obtain ⟨es, ep, t, R⟩ := R0.full fun p hp => I.isT (hk p hp)
  obtain ⟨o, ho, hex, hd⟩ := R.ob
  have hsz := R.size
  have hfew := R.few
  exact call_len_set ho hex hd R.fits (by rw [hsz]; omega) ⟨.int L.length, H, I.tok _, ⟨_, by rw [hsz]⟩, q R.nd⟩
def rLenA (K : PySem.W.Frag) (P : Program) (w : World) : List V → Hp → VK → Prop := fun vs H Qk => rLenS w vs H Qk ∨ rLenT K P w vs H Qk
theorem cLenA : CallR X (.builtin "len") (rLenA X.K X.prog X.w) := by
  intro pins s σ H vs us Qk I r h
  rcases h with h | h
  · exact cLenS pins s σ H vs us Qk I r h
  · exact cLenT pins s σ H vs us Qk I r h
theorem dedup_le : ∀ ns : List Int, (dedup ns).length ≤ ns.length
  | [] => Nat.le_refl _
  | x :: r => by
    rw [dedup, List.length_cons, List.length_cons]
    have := List.length_filter_le (fun y => y != x) (dedup r)
    have := dedup_le r
    omega
theorem reps_refs {K : PySem.W.Frag} {H : Hp} {M : Addr → Prop} {γ : Gm} : ∀ {L : List (Addr × List Int)}, (∀ z ∈ L, Rep K H M γ (.ref z.1) (.tup (z.2.map .int))) → Reps K H M γ (L.map fun q => V.ref q.1) (L.map ((fun t => PV.tup (t.map .int)) ∘ (·.2)))
  | [], _ => .nil
  | z :: r, h => .cons (h z (List.mem_cons_self ..)) (reps_refs fun y hy => h y (List.mem_cons_of_mem _ hy))
theorem sorted_imp {vs : List V} {H : Hp} {Qk : VK} (h : rBl X.K (bltO .sortedSet) vs H Qk) : rSetA X.K X.prog X.w vs H fun v H2 => rSortA X.K X.prog X.w [v] H2 Qk := by
  obtain ⟨M, γ, ds, er, hd, hM, hf, hq⟩ := h
  unfold bltO at hf
  split at hf <;> first | contradiction | skip
  obtain ⟨v, rfl, hx⟩ := dvs1 hd
  obtain ⟨xs, e1, hf⟩ := Option.bind_eq_some_iff.mp hf
  obtain ⟨l, ws, rfl, hl, rs⟩ := hx.lst e1
  split at hf
  · rename_i ns q
    split at hf
    · rename_i hz
      cases hf
      obtain ⟨rfl, _⟩ := reps_ints rs q
      refine .inl ⟨l, ns, rfl, SqL.of hl, hz, fun a ha => .inl ⟨a, _, _, rfl, upd_same, ?_, fun ys p h1 h2 h3 hp => ?_⟩⟩
      · have := dedup_le ns
        omega
      · have e := sorted_is (ns := ns) h1 fun k => by rw [h2 k]; simp
        subst e
        have hp' : H p = none := by
          by_cases z : p = a
          · subst z; exact ha
          · rwa [upd_ne z] at hp
        have ex : Ext H (upd (upd H a (SetO X.w a (fun j => decide (j ∈ ns)) (dedup ns).length)) p (.lst ((sortI ns).map V.int))) := fun b u e => upd_ext hp b u (upd_ext ha b u e)
        exact hq _ _ ex ⟨p, rfl, hp', fun M' hM' => ⟨_, upd_same, Reps.ints _⟩⟩
    · cases hf
  · rename_i q
    split at hf
    · rename_i ts q2
      split at hf
      · rename_i hz
        cases hf
        obtain ⟨ks, rfl, rfl, hks⟩ := reps_tups rs q2
        have hne : ks.map (·.2) ≠ [] := fun z => by
          rw [List.map_eq_nil_iff] at z
          subst z
          cases rs
          cases q
        obtain ⟨b1, d, b2, b3⟩ := tupsOk_bd hz hne
        rw [List.length_map] at b1
        refine .inr ⟨l, ks, rfl, SqL.of hl, fun p hp => SqT.of (hks p hp).1, b1, fun a L ha h1 h2 => .inr ⟨a, L, d, 64, rfl, upd_same, fun p hp => ?_, b2, fun p hp => b3 _ (List.mem_map_of_mem (h1 p hp)), fun L' p pm nd few pw hp => ?_⟩⟩
        · exact SqT.of (upd_ext ha _ _ (hks p (h1 p hp)).1)
        · have hp' : H p = none := by
            by_cases z : p = a
            · subst z; exact ha
            · rwa [upd_ne z] at hp
          have ex : Ext H (upd (upd H a (SetTO X.prog X.w a L)) p (.lst (L'.map fun q => V.ref q.1))) := fun b u e => upd_ext hp b u (upd_ext ha b u e)
          have inks : ∀ z ∈ L', z ∈ ks := fun z hz => h1 z (pm.mem_iff.mp hz)
          have e : L'.map (·.2) = sortT (ks.map (·.2)) := by
            refine sortT_is ?_ fun k => ?_
            · rw [List.pairwise_map]
              refine (List.pairwise_iff_getElem.mpr fun i j hi hj hij => ?_)
              have c := List.pairwise_iff_getElem.mp pw i j hi hj hij
              have n := List.pairwise_iff_getElem.mp nd i j (by simpa using hi) (by simpa using hj) hij
              simp only [List.getElem_map] at n
              have g1 := b3 _ (List.mem_map_of_mem (inks _ (List.getElem_mem hi)))
              have g2 := b3 _ (List.mem_map_of_mem (inks _ (List.getElem_mem hj)))
              cases q : HT.lexLt L'[i].2 L'[j].2 with
              | true => rfl
              | false =>
                have := (code_lex (g2.1.trans g1.1.symm) g2.2 g1.2).mpr (lexLt_tot q n)
                omega
            · constructor
              · intro h
                obtain ⟨z, hz, rfl⟩ := List.mem_map.mp h
                exact List.mem_map_of_mem (inks z hz)
              · intro h
                obtain ⟨z, hz, rfl⟩ := List.mem_map.mp h
                exact ((pm.map (·.2)).mem_iff).mpr (h2 z hz)
          refine hq _ _ ex ⟨p, rfl, hp', fun M' hM' => ⟨_, upd_same, ?_⟩⟩
          rw [← e, List.map_map]
          have T : Tr H M γ (upd (upd H a (SetTO X.prog X.w a L)) p (.lst (L'.map fun q => V.ref q.1))) M' γ := ⟨(Tr.ext ex).keep, (Tr.ext ex).lock (M := M) (γ := γ), (Tr.ext ex).dom (M := M) (γ := γ), fun b m => by
            rcases hM' b m with z | rfl
            · exact .inl z
            · exact .inr hp', (Tr.ext ex).gam (M := M) (γ := γ)⟩
          exact reps_refs fun z hz => Rep.tr T (hks z (inks z hz)).2
      · cases hf
    · cases hf
theorem lenSet_imp {vs : List V} {H : Hp} {Qk : VK} (h : rBl X.K (bltO .lenSet) vs H Qk) : rSetA X.K X.prog X.w vs H fun v H2 => rLenA X.K X.prog X.w [v] H2 Qk := by
  obtain ⟨M, γ, ds, er, hd, hM, hf, hq⟩ := h
  unfold bltO at hf
  split at hf <;> first | contradiction | skip
  obtain ⟨v, rfl, hx⟩ := dvs1 hd
  obtain ⟨xs, e1, hf⟩ := Option.bind_eq_some_iff.mp hf
  obtain ⟨l, ws, rfl, hl, rs⟩ := hx.lst e1
  split at hf
  · rename_i ns q
    split at hf
    · rename_i hz
      cases hf
      obtain ⟨rfl, _⟩ := reps_ints rs q
      refine .inl ⟨l, ns, rfl, SqL.of hl, hz, fun a ha => .inl ⟨a, _, _, rfl, upd_same, ?_, hq _ _ (upd_ext ha) (Rep.int _)⟩⟩
      have := dedup_le ns
      omega
    · cases hf
  · split at hf
    · rename_i ts q2
      split at hf
      · rename_i hz
        cases hf
        obtain ⟨ks, rfl, rfl, hks⟩ := reps_tups rs q2
        rw [List.length_map] at hz
        refine .inr ⟨l, ks, rfl, SqL.of hl, fun p hp => SqT.of (hks p hp).1, hz, fun a L ha h1 h2 => .inr ⟨a, L, rfl, upd_same, fun p hp => SqT.of (upd_ext ha _ _ (hks p (h1 p hp)).1), fun nd => ?_⟩⟩
        have e : L.length = (dedupT (ks.map (·.2))).length := by
          rw [← List.length_map (f := (·.2)) (as := L)]
          refine nodup_len nd (dedupT_nodup _) fun k => ?_
          rw [dedupT_mem]
          constructor
          · intro h
            obtain ⟨z, hz, rfl⟩ := List.mem_map.mp h
            exact List.mem_map_of_mem (h1 z hz)
          · intro h
            obtain ⟨z, hz, rfl⟩ := List.mem_map.mp h
            exact h2 z hz
        rw [e]
        exact hq _ _ (upd_ext ha) (Rep.int _)
      · cases hf
    · cases hf
theorem lenSetT_imp {vs : List V} {H : Hp} {Qk : VK} (h : rBl X.K (bltO .lenSetT) vs H Qk) : rSetIT X.K X.w vs H fun v H2 => rLenA X.K X.prog X.w [v] H2 Qk := by
  obtain ⟨M, γ, ds, er, hd, hM, hf, hq⟩ := h
  unfold bltO at hf
  split at hf <;> first | contradiction | skip
  rename_i xs
  obtain ⟨v, rfl, hx⟩ := dvs1 hd
  split at hf
  · rename_i ns q
    split at hf
    · rename_i hz
      cases hf
      cases hx with
      | tup ha hm rs =>
        obtain ⟨rfl, _⟩ := reps_ints rs q
        refine ⟨_, ns, rfl, SqT.of ha, hz, fun a ha => .inl ⟨a, _, _, rfl, upd_same, ?_, hq _ _ (upd_ext ha) (Rep.int _)⟩⟩
        have := dedup_le ns
        omega
    · cases hf
  · cases hf
variable {B : Bs} {C : Ctx} {a : Expr} {ma : E} {p1 p2 pos pos2 : Pos}
theorem s_sortedSet {n : Nat} (hB : B.K = X.K) (hc : X.calm = true) (hr : Room n X.A) (g1 : Gl X "sorted") (g2 : Gl X "set") (m1 : X.mg "sorted" = none) (m2 : X.mg "set" = none) (ha : PA X [a] (tL B C (.cons ma .nil))) (na : isStar a = false) : PE X (.Call (.Name "sorted" p1) [.Call (.Name "set" p2) [a] [] pos2] [] pos) (tE B C (.blt .sortedSet (.cons ma .nil))) := by
  have hu := units64 hr
  refine s_blt hB (r := fun vs H Qk => rSetA X.K X.prog X.w vs H fun v H2 => rSortA X.K X.prog X.w [v] H2 Qk) ?_ fun vs H Qk h => sorted_imp h
  refine (pe_callB (cSortA hc) g1 m1 rfl (pa_cons (pe_callTy (cSetA hc (by omega)) g2 m2 rfl ha (by decide) (by decide) (star_of na _ _) rfl) pa_nil rfl) (by decide) (by decide) rfl rfl).mono fun σ H Qk h => ?_
  exact h
theorem s_lenSet {n : Nat} (hB : B.K = X.K) (hc : X.calm = true) (hr : Room n X.A) (g1 : Gl X "len") (g2 : Gl X "set") (m1 : X.mg "len" = none) (m2 : X.mg "set" = none) (ha : PA X [a] (tL B C (.cons ma .nil))) (na : isStar a = false) : PE X (.Call (.Name "len" p1) [.Call (.Name "set" p2) [a] [] pos2] [] pos) (tE B C (.blt .lenSet (.cons ma .nil))) := by
  have hu := units64 hr
  refine s_blt hB (r := fun vs H Qk => rSetA X.K X.prog X.w vs H fun v H2 => rLenA X.K X.prog X.w [v] H2 Qk) ?_ fun vs H Qk h => lenSet_imp h
  refine (pe_callB cLenA g1 m1 rfl (pa_cons (pe_callTy (cSetA hc (by omega)) g2 m2 rfl ha (by decide) (by decide) (star_of na _ _) rfl) pa_nil rfl) (by decide) (by decide) rfl rfl).mono fun σ H Qk h => ?_
  exact h
theorem s_lenSetT {n : Nat} (hB : B.K = X.K) (hc : X.calm = true) (hr : Room n X.A) (g1 : Gl X "len") (g2 : Gl X "set") (m1 : X.mg "len" = none) (m2 : X.mg "set" = none) (ha : PA X [a] (tL B C (.cons ma .nil))) (na : isStar a = false) : PE X (.Call (.Name "len" p1) [.Call (.Name "set" p2) [a] [] pos2] [] pos) (tE B C (.blt .lenSetT (.cons ma .nil))) := by
  have hu := units64 hr
  refine s_blt hB (r := fun vs H Qk => rSetIT X.K X.w vs H fun v H2 => rLenA X.K X.prog X.w [v] H2 Qk) ?_ fun vs H Qk h => lenSetT_imp h
  refine (pe_callB cLenA g1 m1 rfl (pa_cons (pe_callTy (cSetIT hc) g2 m2 rfl ha (by decide) (by decide) (star_of na _ _) rfl) pa_nil rfl) (by decide) (by decide) rfl rfl).mono fun σ H Qk h => ?_
  exact h
end
end Q
end
section
set_option maxHeartbeats 2000000
namespace Q
open PySem PySem.Spec PyProof.Rows
open L2 hiding cutV
section
variable {X : Cx} {B : Bs} {C : Ctx} {a b o : Expr} {ma mb mo : E} {p1 p2 pos pos2 ap : Pos}
/-! ### list(range(..)), tuple(range(..)) -/
theorem reps_rg {K : PySem.W.Frag} {H : Hp} {M : Addr → Prop} {γ : Gm} {lo : Int} : ∀ l : List Nat, Reps K H M γ (l.map fun (i : Nat) => V.int (lo + i)) (l.map fun (i : Nat) => PV.int (lo + i))
  | [] => .nil
  | i :: r => .cons (.int _) (reps_rg r)
theorem rg_ok {a b : Int} (h : rgOk a b = true) : RgOk a b := by
  unfold rgOk at h
  rw [decide_eq_true_eq] at h
  exact ⟨by omega, by omega, by omega, by omega, by omega⟩
theorem ran0 (n : Int) : rgV 0 n = (List.range n.toNat).map fun (i : Nat) => V.int (0 + i) := by
  unfold rgV
  rw [Int.sub_zero]
theorem rg1_some {f : BF} {dx : DV} {er : ER} (hf : f = .listRg ∨ f = .tupRg) (q : bltO f [dx] = some er) : ∃ n, dx = .v (.int n) ∧ rgOk 0 n = true ∧ er = if f = .listRg then .own (.lst (ranged 0 n.toNat)) else .v (.tup (ranged 0 n.toNat)) := by
  cases dx with
  | v p =>
    cases p with
    | int n =>
      rcases hf with rfl | rfl
      · have q : (if rgOk 0 n = true then some (ER.own (.lst (ranged 0 n.toNat))) else none) = some er := q
        split at q
        · rename_i hz
          cases q
          exact ⟨n, rfl, hz, rfl⟩
        · cases q
      · have q : (if rgOk 0 n = true then some (ER.v (.tup (ranged 0 n.toNat))) else none) = some er := q
        split at q
        · rename_i hz
          cases q
          exact ⟨n, rfl, hz, rfl⟩
        · cases q
    | _ => rcases hf with rfl | rfl <;> cases q
  | _ => rcases hf with rfl | rfl <;> cases q
theorem rg2_some {f : BF} {dx dy : DV} {er : ER} (hf : f = .listRg ∨ f = .tupRg) (q : bltO f [dx, dy] = some er) : ∃ i j, dx = .v (.int i) ∧ dy = .v (.int j) ∧ rgOk i j = true ∧ er = if f = .listRg then .own (.lst (ranged i (j - i).toNat)) else .v (.tup (ranged i (j - i).toNat)) := by
  have two : ∀ (m n : Int), dx = .v (.int m) → dy = .v (.int n) → ∃ i j, dx = .v (.int i) ∧ dy = .v (.int j) ∧ rgOk i j = true ∧ er = if f = .listRg then .own (.lst (ranged i (j - i).toNat)) else .v (.tup (ranged i (j - i).toNat)) := by
    rintro m n rfl rfl
    rcases hf with rfl | rfl
    · have q : (if rgOk m n = true then some (ER.own (.lst (ranged m (n - m).toNat))) else none) = some er := q
      split at q
      · rename_i hz
        cases q
        exact ⟨m, n, rfl, rfl, hz, rfl⟩
      · cases q
    · have q : (if rgOk m n = true then some (ER.v (.tup (ranged m (n - m).toNat))) else none) = some er := q
      split at q
      · rename_i hz
        cases q
        exact ⟨m, n, rfl, rfl, hz, rfl⟩
      · cases q
  cases dx with
  | v p =>
    cases p with
    | int m =>
      cases dy with
      | v p =>
        cases p with
        | int n => exact two m n rfl rfl
        | _ => rcases hf with rfl | rfl <;> cases q
      | _ => rcases hf with rfl | rfl <;> cases q
    | _ => rcases hf with rfl | rfl <;> cases q
  | _ => rcases hf with rfl | rfl <;> cases q
theorem key_tup {p : PV} (h : keyOk true p = true) : ∃ xs, p = .tup xs ∧ xs.all flatKey = true := by
  cases p with
  | tup xs => exact ⟨xs, rfl, h⟩
  | _ => cases h
theorem s_rg1 {f : BF} {e : Expr} {te : TE} (hB : B.K = X.K) (hf : f = .listRg ∨ f = .tupRg) (he : PE X e te)
    (imp : ∀ σ H Qk, (tE B C ma σ H fun x H1 => ∃ n, x = .int n ∧ RgOk 0 n ∧ ∀ q, H1 q = none → Qk (.ref q) (upd H1 q (if f = .listRg then .lst (rgV 0 n) else .tup (rgV 0 n)))) → te σ H Qk) : PE X e (tE B C (.blt f (.cons ma .nil))) := by
  refine he.mono fun σ H Qk ⟨γ, st, S, h⟩ => imp σ H Qk ?_
  rw [ev, evL, wp_bind, wp_bind] at h
  refine ⟨γ, st, S, wp_mono h (fun x st1 h v1 H1 γ1 T1 S1 R1 => ?_) fun _ _ e => e⟩
  rw [evL, bind_ok, wp_ok] at h
  have D := ErR.dv S1 R1
  dsimp only [List.map] at h
  generalize x.get st1 = dx at h D
  cases q : bltO f [dx] with
  | none => rw [q] at h; exact h.elim
  | some er =>
    rw [q] at h
    obtain ⟨n, rfl, hz, rfl⟩ := rg1_some hf q
    cases D
    refine ⟨n, rfl, rg_ok hz, fun p hp => ?_⟩
    rcases hf with rfl | rfl
    · rw [if_pos rfl] at h ⊢
      obtain ⟨γ2, T2, S2, R⟩ := fin (K := B.K) (er := .own (.lst (ranged 0 n.toNat))) (v := .ref p) T1 S1 (upd_ext (o := .lst (rgV 0 n)) hp) ⟨p, rfl, hp, fun M' _ => ⟨_, upd_same, by rw [ran0]; exact reps_rg _⟩⟩
      exact h _ _ γ2 T2 S2 R
    · rw [if_neg (by decide)] at h ⊢
      obtain ⟨γ2, T2, S2, R⟩ := fin (K := B.K) (er := .v (.tup (ranged 0 n.toNat))) (v := .ref p) T1 S1 (upd_ext (o := .tup (rgV 0 n)) hp) (Rep.tup upd_same (fun m => S1.mu0 p m hp) (by rw [ran0]; exact reps_rg _))
      exact h _ _ γ2 T2 S2 R
theorem s_rg2 {f : BF} {e : Expr} {te : TE} (hB : B.K = X.K) (hf : f = .listRg ∨ f = .tupRg) (he : PE X e te)
    (imp : ∀ σ H Qk, (tE B C ma σ H fun x H1 => tE B C mb σ H1 fun y H2 => ∃ i j, x = .int i ∧ y = .int j ∧ RgOk i j ∧ ∀ q, H2 q = none → Qk (.ref q) (upd H2 q (if f = .listRg then .lst (rgV i j) else .tup (rgV i j)))) → te σ H Qk) : PE X e (tE B C (.blt f (.cons ma (.cons mb .nil)))) := by
  refine he.mono fun σ H Qk ⟨γ, st, S, h⟩ => imp σ H Qk ?_
  rw [ev, evL, wp_bind, wp_bind] at h
  refine ⟨γ, st, S, wp_mono h (fun x st1 h v1 H1 γ1 T1 S1 R1 => ?_) fun _ _ e => e⟩
  rw [evL, wp_bind, wp_bind] at h
  refine ⟨γ1, st1, S1, wp_mono h (fun y st2 h v2 H2 γ2 T2 S2 R2 => ?_) fun _ _ e => e.trans T1⟩
  rw [evL, bind_ok, wp_ok, wp_ok] at h
  have D1 := ErR.dv S2 (ErR.tr T2 R1)
  have D2 := ErR.dv S2 R2
  dsimp only [List.map] at h
  generalize x.get st2 = dx at h D1
  generalize y.get st2 = dy at h D2
  cases q : bltO f [dx, dy] with
  | none => rw [q] at h; exact h.elim
  | some er =>
    rw [q] at h
    obtain ⟨i, j, rfl, rfl, hz, rfl⟩ := rg2_some hf q
    cases D1
    cases D2
    refine ⟨i, j, rfl, rfl, rg_ok hz, fun p hp => ?_⟩
    rcases hf with rfl | rfl
    · rw [if_pos rfl] at h ⊢
      obtain ⟨γ3, T3, S3, R⟩ := fin (K := B.K) (er := .own (.lst (ranged i (j - i).toNat))) (v := .ref p) (T1.trans T2) S2 (upd_ext (o := .lst (rgV i j)) hp) ⟨p, rfl, hp, fun M' _ => ⟨_, upd_same, reps_rg _⟩⟩
      exact h _ _ γ3 T3 S3 R
    · rw [if_neg (by decide)] at h ⊢
      obtain ⟨γ3, T3, S3, R⟩ := fin (K := B.K) (er := .v (.tup (ranged i (j - i).toNat))) (v := .ref p) (T1.trans T2) S2 (upd_ext (o := .tup (rgV i j)) hp) (Rep.tup upd_same (fun m => S2.mu0 p m hp) (reps_rg _))
      exact h _ _ γ3 T3 S3 R
/-! ### dict(d) -/
theorem cDict : CallR X (.type "dict") (rBl X.K (bltO .dictOf)) := by
  intro pins s σ H xs us Qk I r h
  obtain ⟨M, γ, ds, er, hd, hM, hf, hq⟩ := h
  unfold bltO at hf
  split at hf <;> first | contradiction | skip
  rename_i kvs e
  cases hf
  obtain ⟨v, rfl, hx⟩ := dvs1 hd
  obtain ⟨a, rfl, ks, hk, hp⟩ := hx
  rw [Vals.ref1 r]
  refine d_copyOf I (.inl hk) fun p s' hp' I' => ⟨.ref p, _, I', rfl, hq _ _ (upd_ext hp') ⟨p, rfl, hp', fun M' hM' => ⟨ks, upd_same, ?_⟩⟩⟩
  have T : Tr H M γ (upd H p (.dK ks)) M' γ := ⟨(Tr.ext (upd_ext hp')).keep, (Tr.ext (upd_ext (o := .dK ks) hp')).lock (M := M) (γ := γ), (Tr.ext (upd_ext (o := .dK ks) hp')).dom (M := M) (γ := γ), fun b m => by
    rcases hM' b m with z | rfl
    · exact .inl z
    · exact .inr hp', (Tr.ext (upd_ext (o := .dK ks) hp')).gam (M := M) (γ := γ)⟩
  exact Paired.imp2 hp fun _ _ z => ⟨z.1, Rep.tr T z.2⟩
/-! ### d.get(k) -/
theorem dv_isD {K : PySem.W.Frag} {H : Hp} {M : Addr → Prop} {γ : Gm} {v : V} {dv : DV} (D : DvR K H M γ v dv) (h : recvOk .get1 dv = true) : ∃ a, v = .ref a ∧ IsD H a := by
  unfold recvOk at h
  split at h <;> first | contradiction | skip
  rename_i t kvs e1
  obtain ⟨a, rfl, r⟩ := D
  refine ⟨a, rfl, ?_⟩
  cases t with
  | false => obtain ⟨ks, e, _⟩ := r; exact .inl ⟨ks, .inl e⟩
  | true => obtain ⟨ks, e, _⟩ := r; exact .inr ⟨ks, .inl e⟩
theorem s_get1 {n : Nat} (hB : B.K = X.K) (hr : Room n X.A) (ho : PE X o (tE B C mo)) (ha : PE X a (tE B C ma)) (m : M1 X o "get" ap a pos) : PE X (.Call (.Attribute o "get" ap) [a] [] pos) (tE B C (.meth .get1 mo (.cons ma .nil))) := by
  have hu := units64 hr
  refine (pe_dget1 (by omega) ho ha m).mono fun σ H Qk ⟨γ, st, S, h⟩ => ?_
  rw [ev, wp_bind] at h
  refine ⟨γ, st, S, wp_mono h (fun x st1 h v1 H1 γ1 T1 S1 R1 => ?_) fun _ _ e => e⟩
  split at h
  · rename_i hrc
    obtain ⟨d, rfl, isd⟩ := dv_isD (ErR.dv S1 R1) hrc
    refine ⟨d, rfl, isd, ?_⟩
    rw [evL, wp_bind, wp_bind] at h
    refine ⟨γ1, st1, S1, wp_mono h (fun y st2 h v2 H2 γ2 T2 S2 R2 => ?_) fun _ _ e => e.trans T1⟩
    rw [evL, bind_ok, wp_ok] at h
    have D1 := ErR.dv S2 (ErR.tr T2 R1)
    have D2 := ErR.dv S2 R2
    dsimp only [List.map] at h
    generalize x.get st2 = dx at h D1
    generalize y.get st2 = dy at h D2
    cases q : methO .get1 dx [dy] with
    | none => rw [q] at h; exact h.elim
    | some er =>
      rw [q] at h
      unfold methO at q
      split at q <;> first | contradiction | skip
      rename_i t kvs k e1 e2
      cases e2
      obtain ⟨p, hp, q⟩ := Option.bind_eq_some_iff.mp q
      split at q
      · rename_i hk
        cases q
        obtain ⟨d', e, r⟩ := D1
        cases e
        have fin' : ∀ w, Rep B.K H2 (Mu γ2 σ st2) γ2 w ((dGet kvs p).getD .non) → Qk w H2 := fun w rw' => h w H2 γ2 (T1.trans T2) S2 rw'
        cases t with
        | false =>
          obtain ⟨ks, hd, pr⟩ := r
          have f : flatKey p = true := hk
          have g := get_flat (R := fun v q => Rep B.K H2 (Mu γ2 σ st2) γ2 v q) pr f
          have rp : Rep B.K H2 (Mu γ2 σ st2) γ2 v2 p := by
            cases dy with
            | v p' => cases hp; exact D2
            | d l =>
              cases l with
              | lst xs => cases hp; cases f
              | dct _ _ => cases hp
            | bad => cases hp
          rw [rep_key rp f]
          refine ⟨valV ks (toKey p), .inl ⟨ks, toKey p, .inl hd, rfl, rfl⟩, fin' _ ?_⟩
          revert g
          cases valV ks (toKey p) <;> cases dGet kvs p <;> intro g
          · exact .non
          · exact g.elim
          · exact g.elim
          · exact g
        | true =>
          obtain ⟨ks, hd, pr⟩ := r
          obtain ⟨xs, rfl, hk⟩ := key_tup hk
          · have g := get_tup (R := fun v q => Rep B.K H2 (Mu γ2 σ st2) γ2 v q) pr hk
            have rp : Rep B.K H2 (Mu γ2 σ st2) γ2 v2 (.tup xs) := by
              cases dy with
              | v p' => cases hp; exact D2
              | d l =>
                cases l with
                | lst xs => cases hp
                | dct _ _ => cases hp
              | bad => cases hp
            cases rp with
            | tup ht nt rs =>
              rw [reps_keys rs hk] at ht
              refine ⟨valV ks (xs.map toKey), .inr ⟨ks, xs.map toKey, _, .inl hd, rfl, ht, rfl⟩, fin' _ ?_⟩
              revert g
              cases valV ks (xs.map toKey) <;> cases dGet kvs (.tup xs) <;> intro g
              · exact .non
              · exact g.elim
              · exact g.elim
              · exact g
      · cases q
  · exact h.elim
end
end Q
end
section
set_option maxHeartbeats 2000000
namespace Q
open PySem PySem.Spec PyProof.Rows
open L2 hiding cutV
/-! ### {k: v for ..} -/
section
variable {B : Bs} {C : Ctx} {ws : List Nat} {tg : Tg} {it : IT} {ek ee : E}
abbrev dcF (C : Ctx) (tg : Tg) (ws : List Nat) (ek ee : E) (x : PV) (kvs : List (PV × PV)) (st : ST) : Out (List (PV × PV)) := match putTo tg x (wipeS st ws) with
  | some st => frzO (ev C ek st) fun p st => frzO (ev C ee st) fun q st => (lift (dcPut false kvs p q) st).bind fun kvs st => .ok kvs (wipeS st ws)
  | none => .bad
def DcW (K : PySem.W.Frag) (σ : L2.St) (H1 : Hp) (M1 : Addr → Prop) (γ1 : Gm) (Hb : Hp) (Mb : Addr → Prop) (γb : Gm) (D : Addr) (F : PV → List (PV × PV) → ST → Out (List (PV × PV))) (xs : List PV) (Kt : List (PV × PV) → ST → Prop) (i m : Nat) (H : Hp) : Prop :=
  ∃ kvs ks st γ, m = xs.length - i ∧ i ≤ xs.length ∧ Sim K H γ σ st ∧ Tr H1 M1 γ1 H (Mu γ σ st) γ ∧ Tr Hb Mb ⟨γb.obj, []⟩ H (Mu γ σ st) γ ∧ D ∈ γ.lock ∧ H D = some (.dK ks) ∧ Paired (fun k p => KeyR k.1 p.1 ∧ Rep K H (Mu γ σ st) γ k.2 p.2) ks kvs ∧
    (foldO F (xs.drop i) kvs st).wp Kt fun _ _ => False
theorem foldO_cons {F : PV → List (PV × PV) → ST → Out (List (PV × PV))} {xs : List PV} {i : Nat} {x : PV} {kvs : List (PV × PV)} {st : ST} {q : List (PV × PV) → ST → Prop} {e : XV → ST → Prop} (hx : xs[i]? = some x) (h : (foldO F (xs.drop i) kvs st).wp q e) :
    (F x kvs st).wp (fun a st => (foldO F (xs.drop (i + 1)) a st).wp q e) e := by
  obtain ⟨hl, e'⟩ := List.getElem?_eq_some_iff.mp hx
  rw [List.drop_eq_getElem_cons hl, e', foldO, wp_bind] at h
  exact h
theorem Reps.gam1 {K : PySem.W.Frag} {H : Hp} {M : Addr → Prop} {γ γ' : Gm} (e : γ'.obj = γ.obj) {v : V} {p : PV} (r : Rep K H M γ v p) : Rep K H M γ' v p := by
  have := Reps.gam (K := K) (H := H) (γ := γ) (γ' := γ') e.symm (Reps.cons r .nil)
  cases this with
  | cons a _ => exact a
theorem dc_turn {K : PySem.W.Frag} (hK : B.K = K) {σ : L2.St} {H1 Hb : Hp} {M1 Mb : Addr → Prop} {γ1 γb : Gm} {D : Addr} {xs : List PV} {Kt : List (PV × PV) → ST → Prop} {i m : Nat} {H : Hp} {J : It} (htg : ∀ i ∈ tg.slots, i ∈ ws)
    (hD : H1 D = none) (hDb : Hb D = none ∨ Mb D) (R1 : ItR K J xs Hb Mb ⟨γb.obj, []⟩) (hlt : i < xs.length)
    (w : DcW K σ H1 M1 γ1 Hb Mb γb D (dcF C tg ws ek ee) xs Kt i m H) :
    J.go i H ∧ ∀ v H', J.yld i H v H' → gTg K tg v (L2.wipe σ ws) H' fun σ2 H2 => L2.wipe σ2 ws = L2.wipe σ ws ∧ tT B.off C .tt σ2 H2 fun b H3 =>
      if b = true then tE B.off C ek σ2 H3 fun y H4 => tE B.off C ee σ2 H4 fun z H5 => ∃ kvs k, y = kV k ∧ H5 D = some (.dK kvs) ∧ kvs.length < sizeLine ∧ DcW K σ H1 M1 γ1 Hb Mb γb D (dcF C tg ws ek ee) xs Kt (i + 1) (xs.length - (i + 1)) (upd H5 D (.dK (putK kvs k z)))
      else DcW K σ H1 M1 γ1 Hb Mb γb D (dcF C tg ws ek ee) xs Kt (i + 1) (xs.length - (i + 1)) H3 := by
  subst hK
  obtain ⟨kvs, ks, st2, γ2, rfl, hi, S2, T2, Tb, hl, hd, rs, w⟩ := w
  have hx : xs[i]? = some xs[i] := by simp [hlt]
  generalize xs[i] = x at hx
  obtain ⟨_, R⟩ := R1 H _ γ2 Tb
  obtain ⟨go, R⟩ := R i x hx
  have w := foldO_cons hx w
  refine ⟨go, fun v H' y => ?_⟩
  obtain ⟨rfl, rv⟩ := R v H' y
  obtain ⟨S3, T3⟩ := S2.back (σ := L2.wipe σ ws) (ws := ws) (wipe_length _ _) (wipe_wipe _ _)
  unfold dcF at w
  split at w
  · rename_i st3 hput
    refine putTo_ok htg S3 (rv.tr T3) hput fun σ' el ew S4 T4 => ?_
    rw [wipe_wipe] at ew
    rw [wipe_length] at el
    refine ⟨ew, γ2, st3, S4, ?_⟩
    rw [tst]
    refine fun k H5 γ5 T5 S5 R5 => ?_
    have R5 : k = true := R5
    subst R5
    have T25 := T3.trans (T4.trans T5)
    refine L2.iteT ?_
    rw [frzO, wp_bind] at w
    refine ⟨γ5, st3, S5, wp_mono w (fun er st5 w y H6 γ6 T6 S6 R6 => ?_) fun _ _ e => e.elim⟩
    split at w
    · rename_i p st6 hf
      obtain ⟨S7, T7, R7⟩ := frz_ok S5.lk T6 S6 hf R6
      have T27 := T25.trans T7
      rw [frzO, wp_bind] at w
      refine ⟨_, st6, S7, wp_mono w (fun er st8 w z H8 γ8 T8 S8 R8 => ?_) fun _ _ e => e.elim⟩
      split at w
      · rename_i q st9 hf2
        obtain ⟨S9, T9, R9⟩ := frz_ok S7.lk T8 S8 hf2 R8
        have T29 := T27.trans T9
        cases hq : dcPut false kvs p q with
        | none => rw [hq] at w; exact w.elim
        | some kvs' =>
          rw [hq] at w
          unfold dcPut at hq
          split at hq
          · rename_i hk
            cases hq
            simp only [Bool.and_eq_true, decide_eq_true_eq] at hk
            have f : flatKey p = true := hk.1
            have hl9 := T29.lock _ hl
            refine ⟨ks, toKey p, ?_, T29.keep _ _ hd (.inr hl), ?_, ?_⟩
            · exact rep_key (Rep.tr T9 R7) f
            · rw [Paired.length rs, sizeL]
              exact hk.2
            · obtain ⟨S10, T10⟩ := S9.poke (o := .dK (putK ks (toKey p) z)) hl9
              have S11 := (S10.back (σ := σ) (ws := ws) el.symm ew.symm).1
              have T11 := (S9.back (σ := σ) (ws := ws) el.symm ew.symm).2
              have T101 := (S10.back (σ := σ) (ws := ws) el.symm ew.symm).2
              refine ⟨dPut kvs p q, _, _, _, rfl, hlt, S11, (T2.trans (T29.trans T11)).poke hD, (Tb.trans (T29.trans T11)).poke' hDb, hl9, upd_same, ?_, w⟩
              refine put_flat (Paired.imp2 rs fun _ _ r => ⟨r.1, Rep.tr (T10.trans T101) (Reps.gam1 (γ := γ8.at (γ6.at γ5)) (γ' := ⟨(γ8.at (γ6.at γ5)).obj, []⟩) rfl (Rep.tr T29 r.2))⟩) f (Rep.tr (T10.trans T101) (Reps.gam1 (γ := γ8.at (γ6.at γ5)) (γ' := ⟨(γ8.at (γ6.at γ5)).obj, []⟩) rfl R9))
          · cases hq
      · exact w.elim
    · exact w.elim
  · exact w.elim
theorem dc_imp (htg : ∀ i ∈ tg.slots, i ∈ ws) {σ : L2.St} {H : Hp} {Qk : VK} (h : tE B C (.dc ws tg it ek ee) σ H Qk) : tDc (tI B C it) (gTg B.K tg) (tT B.off C .tt) (tE B.off C ek) (tE B.off C ee) ws σ H Qk := by
  obtain ⟨γ, st, S, h⟩ := h
  rw [ev, wp_bind] at h
  refine ⟨γ, st, S, wp_mono h (fun xs st1 h J H1 γ1 T1 S1 R1 D hD => ?_) fun _ _ e => e⟩
  rw [wp_bind, noExc_wp] at h
  generalize hKt : (fun (kvs : List (PV × PV)) (st : ST) => (Out.ok (ER.own (LD.dct false kvs)) st).wp (okK B σ H γ _ (relE B.K σ H) Qk) (excK B σ H γ _)) = Kt at h
  have S0 := S1.hold (upd_ext (o := .dK []) hD) hD ⟨_, upd_same⟩
  refine ⟨DcW B.K σ H1 (Mu γ1 σ st1) γ1 H1 (Mu γ1 σ st1) γ1 D (dcF C tg ws ek ee) xs Kt, ⟨xs.length, [], [], st1, γ1.add D, rfl, Nat.zero_le _, S0.1, S0.2, S0.2.nolock, .head _, upd_same, .nil, h⟩, ?_⟩
  intro i m H2 w
  by_cases hlt : i < xs.length
  · obtain ⟨go, k⟩ := dc_turn rfl htg hD (.inl hD) R1 hlt w
    exact .inr ⟨go, _, fun H' n => ⟨_, (by obtain ⟨_, _, _, _, e, _⟩ := w; omega), n⟩, k⟩
  · obtain ⟨kvs, ks, st2, γ2, rfl, hi, S2, T2, Tb, hl, hd, rs, w⟩ := w
    have e : i = xs.length := by omega
    subst e
    rw [List.drop_length, foldO, wp_ok, ← hKt] at w
    refine .inl ⟨(R1 H2 _ γ2 Tb).1 _ (Nat.le_refl _), ?_⟩
    exact w _ H2 γ2 (T1.trans T2) S2 ⟨D, rfl, T1.dom _ hD, hl, ks, hd, rs⟩
end
end Q
end
section
set_option maxHeartbeats 2000000
namespace Q
open PySem PySem.Spec PyProof.Rows
open L2 hiding cutV
def OkJ (c : TC) : Jb → Prop
  | .e m x => ∀ lv X B C, XOk c lv X B C → PE X x (tE B C m)
  | .l m xs => (∀ lv X B C, XOk c lv X B C → PA X xs (tL B C m)) ∧ (∀ x ∈ xs, isStar x = false) ∧ (xs = [] → m = .nil) ∧ m.len = xs.length
  | .k m xs => (∀ lv X B C, XOk c lv X B C → PK X xs (tL B C m)) ∧ m.len = xs.length
  | .t m x => ∀ lv X B C, XOk c lv X B C → PT X x (tT B C m)
  | .ta m op xs => ∀ lv X B C pos, XOk c lv X B C → PW X (.BoolOp op xs pos) (tT B C m)
  | .ea m op xs => ∀ lv X B C pos, XOk c lv X B C → PE X (.BoolOp op xs pos) (tE B C m)
  | .o m x => ∀ lv X B C, XOk c lv X B C → PO X x (tO B C m)
  | .i m x => ∀ lv X B C tg, XOk c lv X B C → PI X tg x (tI B C m)
  | .g m x => ∀ lv X B C, XOk c lv X B C → PG X x (gTg X.K m)
  | .gs m xs => ∀ lv X B C, XOk c lv X B C → PGs X xs (gNames m) ∧ (assignEach xs X.env).length = m.length ∧ (assignEach xs X.env).findIdx? (·.1) = none
  | .c m xs => ∀ lv X B C, XOk c lv X B C → PTs X xs (tT B C m)
  | .s m x => ∀ lv X B C, XOk c lv X B C → PassesOwn (model X.prog X.w) X.A X.env X.xe → PS X x (tS B C m)
  | .ss m xs => ∀ lv X B C, XOk c lv X B C → PassesOwn (model X.prog X.w) X.A X.env X.xe → PSs X xs (tSs B C m)
section
variable {c : TC} {lv : Nat} {X : Cx} {B : Bs} {C : Ctx}
theorem XOk.vis (k : XOk c lv X B C) {y : Str} (h : isVis c y = true) : Vis X.env.scope y ∧ (y == ("__debug__" : Str)) = false ∧ (y == ("__classdict__" : Str)) = false := by
  unfold isVis look at h
  simp only [Bool.and_eq_true, Bool.or_eq_true, beq_iff_eq, Bool.not_eq_true'] at h
  obtain ⟨⟨h1, h2⟩, h3⟩ := h
  refine ⟨?_, h2, h3⟩
  unfold Vis
  rw [k.sc]
  rcases h1 with (h1 | h1) | h1
  · exact .inl h1
  · exact .inr (.inl h1)
  · exact .inr (.inr h1)
theorem XOk.gl (k : XOk c lv X B C) {y : Str} (h : isGl c y = true) : Gl X y ∧ (y == ("__debug__" : Str)) = false := by
  unfold isGl look at h
  simp only [Bool.and_eq_true, beq_iff_eq, Bool.not_eq_true'] at h
  refine ⟨?_, h.2⟩
  show X.env.scope.names.lookup y = _
  rw [k.sc]
  exact h.1
theorem XOk.to (k : XOk c lv X B C) {i : Nat} {y : Str} (h : isTo c i y = true) : X.N[i]? = some y ∧ Loc X.env.scope y ∧ (X.fn y = true ∨ X.env.scope.names.lookup y = some .local) := by
  unfold isTo look at h
  simp only [Bool.and_eq_true, Bool.or_eq_true, beq_iff_eq] at h
  obtain ⟨h1, h2⟩ := h
  refine ⟨by rw [k.N]; exact h1, ?_, ?_⟩
  · unfold L2.Loc
    rw [k.sc]
    exact h2.imp id fun z => z.1
  · rw [k.sc, k.fn]
    rcases h2 with z | z
    · exact .inr z
    · exact .inl z.2
theorem XOk.at (k : XOk c lv X B C) {i : Nat} {y : Str} (h : (c.N[i]? == some y) = true) : X.N[i]? = some y := by
  rw [k.N]
  simpa using h
theorem XOk.blk_ok (k : XOk c lv X B C) {ws : List Nat} {scope : Scope} (h : blkC c.N c.sc scope (ownOf c ws) = true) : BlkOk X.N X.env.scope scope (ownOf c ws) := by
  rw [k.N, k.sc]
  exact blkOk_by h
theorem own_ix (c : TC) (ws : List Nat) : (ownOf c ws).map (·.2) = ws := by
  unfold ownOf
  rw [List.map_map]
  exact List.map_id' ws
theorem fold_of {it : Expr} (h : notSet it = true) (env : PySem.Env) (x : Value) : foldedSetIterable it env x = pure x := by
  cases it <;> first
    | rfl
    | cases h
theorem plain_of {b : Expr} (h : notSlice b = true) : PlainIx b := by
  intro o i
  cases b <;> first
    | rfl
    | cases h
theorem test_of {a : Expr} (h : plainTest a = true) (env : PySem.Env) (whole : Sem Value) : isTrue a env whole = (do let v ← whole; standAt a.pos; holding [v] (PySem.truthy v)) := by
  cases a with
  | UnaryOp op x p => cases op <;> first
      | rfl
      | cases h
  | _ => first
      | rfl
      | cases h
theorem call_hs {xs : List Expr} (h : ∀ x ∈ xs, isStar x = false) (pos : Pos) (env : PySem.Env) {e : Expr} {es : List Expr} (q : xs = e :: es) : starEach (e :: es) env = (false, eval e env) :: starEach es env ∧ (backTo pos (starEach es env)).any (·.1) = false := by
  subst q
  exact ⟨star_of (h e (.head _)) es env, backTo_plain pos env es fun x hx => h x (.tail _ hx)⟩
theorem pts_tt : PTs X [] (tT B C .tt) := ⟨fun pins s σ H Qk I ⟨γ, st, S, h⟩ => pts_nil.run pins s σ H Qk I (by
  rw [tst] at h
  exact h true H γ Tr.refl S rfl)⟩
variable {r : TC → Jb → Bool} (IH : ∀ c j, r c j = true → OkJ c j)
include IH
theorem tie_l {m : EL} {xs : List Expr} (h : stepL r c m xs = true) : OkJ c (.l m xs) := by
  unfold stepL at h
  split at h
  · exact ⟨fun _ _ _ _ _ => s_nil, fun x hx => (by cases hx), fun _ => rfl, rfl⟩
  · simp only [Bool.and_eq_true, Bool.not_eq_true'] at h
    obtain ⟨⟨h1, h2⟩, h3⟩ := h
    obtain ⟨a, b, d, e⟩ := IH _ _ h3
    refine ⟨fun lv X B C k => s_cons (IH _ _ h2 lv X B C k) (a lv X B C k) (star_of h1 _ _), fun x hx => ?_, fun z => (by cases z), by rw [EL.len, e, List.length_cons]⟩
    rcases List.mem_cons.mp hx with rfl | hx
    · exact h1
    · exact b x hx
  · cases h
theorem tie_k {m : EL} {xs : List Keyword} (h : stepK r c m xs = true) : OkJ c (.k m xs) := by
  unfold stepK at h
  split at h
  · exact ⟨fun _ _ _ _ _ => s_knil, rfl⟩
  · simp only [Bool.and_eq_true] at h
    obtain ⟨a, e⟩ := IH _ _ h.2
    exact ⟨fun lv X B C k => s_kcons (IH _ _ h.1 lv X B C k) (a lv X B C k), by rw [EL.len, e, List.length_cons]⟩
  · cases h
theorem tie_o {m : OE} {x : Option Expr} (h : stepO r c m x = true) : OkJ c (.o m x) := by
  unfold stepO at h
  split at h
  · exact fun _ _ _ _ _ => s_no
  · exact fun lv X B C k => s_yes (IH _ _ h lv X B C k)
  · cases h
theorem tie_ea {m : E} {op : BoolOp} {xs : List Expr} (h : stepEA r c m op xs = true) : OkJ c (.ea m op xs) := by
  unfold stepEA at h
  split at h
  · exact fun lv X B C pos k => pe_one (IH _ _ h lv X B C k)
  · split at h
    · simp only [Bool.and_eq_true] at h
      exact fun lv X B C pos k => s_and (IH _ _ h.1 lv X B C k) (IH _ _ h.2 lv X B C pos k)
    · simp only [Bool.and_eq_true] at h
      exact fun lv X B C pos k => s_or (IH _ _ h.1 lv X B C k) (IH _ _ h.2 lv X B C pos k)
    · cases h
  · cases h
theorem tie_ta {m : T} {op : BoolOp} {xs : List Expr} (h : stepTA r c m op xs = true) : OkJ c (.ta m op xs) := by
  unfold stepTA at h
  split at h
  · intro lv X B C pos k
    cases op with
    | And => exact pw_and1 (IH _ _ h lv X B C k)
    | Or => exact pw_or1 (IH _ _ h lv X B C k)
  · split at h
    · simp only [Bool.and_eq_true] at h
      exact fun lv X B C pos k => s_tand (IH _ _ h.1 lv X B C k) (IH _ _ h.2 lv X B C pos k)
    · simp only [Bool.and_eq_true] at h
      exact fun lv X B C pos k => s_tor (IH _ _ h.1 lv X B C k) (IH _ _ h.2 lv X B C pos k)
    · cases h
  · cases h
theorem tie_c {m : T} {xs : List Expr} (h : stepC r c m xs = true) : OkJ c (.c m xs) := by
  unfold stepC at h
  split at h
  · exact fun _ _ _ _ _ => pts_tt
  · exact fun lv X B C k => pts_one (IH _ _ h lv X B C k)
  · cases h
theorem tie_t {m : T} {x : Expr} (h : stepT r c m x = true) : OkJ c (.t m x) := by
  unfold stepT at h
  split at h
  · simp only [Bool.and_eq_true, decide_eq_true_eq, Bool.not_eq_true'] at h
    obtain ⟨⟨⟨rfl, h1⟩, h2⟩, h3⟩ := h
    exact fun lv X B C k => s_tcmp k.K k.room (IH _ _ h2 lv X B C k) (IH _ _ h3 lv X B C k) h1
  · simp only [Bool.and_eq_true, decide_eq_true_eq, Bool.not_eq_true'] at h
    obtain ⟨⟨⟨⟨⟨rfl, rfl⟩, h1⟩, h2⟩, h3⟩, h4⟩ := h
    exact fun lv X B C k => s_tchain k.K k.room (IH _ _ h2 lv X B C k) (IH _ _ h3 lv X B C k) (IH _ _ h4 lv X B C k) h1
  · exact fun lv X B C k => s_tnot (IH _ _ h lv X B C k)
  · simp only [Bool.and_eq_true] at h
    exact fun lv X B C k => (s_tand (IH _ _ h.1 lv X B C k) (IH _ _ h.2 lv X B C _ k)).pt
  · simp only [Bool.and_eq_true] at h
    exact fun lv X B C k => (s_tor (IH _ _ h.1 lv X B C k) (IH _ _ h.2 lv X B C _ k)).pt
  · simp only [Bool.and_eq_true] at h
    exact fun lv X B C k => s_te k.K (IH _ _ h.2 lv X B C k) (test_of h.1 _)
  · cases h
theorem tie_i {m : IT} {x : Expr} (h : stepI r c m x = true) : OkJ c (.i m x) := by
  unfold stepI at h
  split at h
  · simp only [Bool.and_eq_true, beq_iff_eq, Bool.not_eq_true'] at h
    obtain ⟨⟨⟨rfl, h1⟩, h2⟩, h3⟩ := h
    exact fun lv X B C tg k => s_rng1 k.K (k.gl h1).1 (k.blt _ (by decide)) h2 (IH _ _ h3 lv X B C k)
  · simp only [Bool.and_eq_true, beq_iff_eq, Bool.not_eq_true'] at h
    obtain ⟨⟨⟨⟨⟨rfl, h1⟩, h2⟩, h3⟩, h4⟩, h5⟩ := h
    exact fun lv X B C tg k => s_rng2 k.K (k.gl h1).1 (k.blt _ (by decide)) h2 h3 (IH _ _ h4 lv X B C k) (IH _ _ h5 lv X B C k)
  · simp only [Bool.and_eq_true, beq_iff_eq, Bool.not_eq_true'] at h
    obtain ⟨⟨⟨⟨⟨⟨⟨rfl, h1⟩, h2⟩, h3⟩, h4⟩, h5⟩, h6⟩, h7⟩ := h
    exact fun lv X B C tg k => s_rng3 k.K (k.gl h1).1 (k.blt _ (by decide)) h2 h3 h4 (IH _ _ h5 lv X B C k) (IH _ _ h6 lv X B C k) (IH _ _ h7 lv X B C k)
  · simp only [Bool.and_eq_true, beq_iff_eq, Bool.not_eq_true'] at h
    obtain ⟨⟨⟨⟨⟨rfl, h1⟩, rfl⟩, h3⟩, h4⟩, h5⟩ := h
    exact fun lv X B C tg k => s_rev1 k.K (k.gl h3).1 (k.blt _ (by decide)) (k.gl h1).1 (k.blt _ (by decide)) h4 (IH _ _ h5 lv X B C k)
  · exact fun lv X B C tg k => s_itseq k.K (IH _ _ h lv X B C k)
  · cases h
theorem tie_gs {m : List Nat} {xs : List Expr} (h : stepGS r c m xs = true) : OkJ c (.gs m xs) := by
  unfold stepGS at h
  split at h
  · exact fun _ _ _ _ _ => ⟨pgs_nil, rfl, rfl⟩
  · simp only [Bool.and_eq_true] at h
    intro lv X B C k
    obtain ⟨h1, h2, h3⟩ := k.to h.1
    obtain ⟨g1, g2, g3⟩ := IH _ _ h.2 lv X B C k
    refine ⟨pgs_cons (pg_name k.nd h1 h2 h3) g1 rfl, ?_, ?_⟩
    · show (_ :: assignEach _ X.env).length = _
      rw [List.length_cons, g2, List.length_cons]
    · show List.findIdx? _ ((false, _) :: assignEach _ X.env) = none
      rw [List.findIdx?_cons]
      simp [g3]
  · cases h
theorem tie_g {m : Tg} {x : Expr} (h : stepG r c m x = true) : OkJ c (.g m x) := by
  unfold stepG at h
  split at h
  · intro lv X B C k
    obtain ⟨h1, h2, h3⟩ := k.to h
    exact pg_name k.nd h1 h2 h3
  · intro lv X B C k
    obtain ⟨g1, g2, g3⟩ := IH _ _ h lv X B C k
    exact pg_tup k.calm g1 g2 g3
  · cases h
theorem arg2 {xs : List Expr} {m : EL} (q : OkJ c (.l m xs)) (k : XOk c lv X B C) {x : Expr} {r : List Expr} {pos : Pos} (hx : xs = x :: r) : PA X (x :: r) (tL B C m) ∧ starEach (x :: r) X.env = (false, eval x X.env) :: starEach r X.env ∧ (backTo pos (starEach r X.env)).any (·.1) = false := by
  subst hx
  exact ⟨q.1 lv X B C k, call_hs q.2.1 pos X.env rfl⟩
omit IH in
theorem blt_ok {f : BF} {y : Str} {x : Expr} {xs : List Expr} {m : EL} {p pos : Pos} (q : OkJ c (.l m (x :: xs))) (k : XOk c lv X B C) (hf : bfName f = some y) (hg : isGl c y = true) : PE X (.Call (.Name y p) (x :: xs) [] pos) (tE B C (.blt f m)) := by
  obtain ⟨g1, g2⟩ := k.gl hg
  obtain ⟨s1, s2⟩ := call_hs (pos := pos) (env := X.env) q.2.1 rfl
  have ha := q.1 lv X B C k
  cases f <;> cases hf
  · exact s_blt k.K (pe_callB cLen g1 (k.blt _ (by decide)) rfl ha (by decide) g2 s1 s2) fun _ _ _ h => h
  · exact s_blt k.K (pe_callTy cInt g1 (k.blt _ (by decide)) rfl ha (by decide) g2 s1 s2) fun _ _ _ h => h
  · exact s_blt k.K (pe_callB cAbs g1 (k.blt _ (by decide)) rfl ha (by decide) g2 s1 s2) fun _ _ _ h => h
  · exact s_blt k.K (pe_callTy cTuple g1 (k.blt _ (by decide)) rfl ha (by decide) g2 s1 s2) fun _ _ _ h => h
  · exact s_blt k.K (pe_callTy cList g1 (k.blt _ (by decide)) rfl ha (by decide) g2 s1 s2) fun _ _ _ h => h
  · exact s_blt k.K (pe_callB (cAll k.calm) g1 (k.blt _ (by decide)) rfl ha (by decide) g2 s1 s2) fun _ _ _ h => h
  · exact s_blt k.K (pe_callB (cRepr k.room k.gd) g1 (k.blt _ (by decide)) rfl ha (by decide) g2 s1 s2) fun _ _ _ h => h
  · exact s_blt k.K (pe_callTy cStr g1 (k.blt _ (by decide)) rfl ha (by decide) g2 s1 s2) fun _ _ _ h => h
  · exact s_blt k.K (pe_callTy cBool g1 (k.blt _ (by decide)) rfl ha (by decide) g2 s1 s2) fun _ _ _ h => h
  · exact s_blt k.K (pe_callB (cMax k.calm) g1 (k.blt _ (by decide)) rfl ha (by decide) g2 s1 s2) fun _ _ _ h => h
  · exact s_blt k.K (pe_callB (cMin k.calm) g1 (k.blt _ (by decide)) rfl ha (by decide) g2 s1 s2) fun _ _ _ h => h
  · exact s_blt k.K (pe_callTy cDict g1 (k.blt _ (by decide)) rfl ha (by decide) g2 s1 s2) fun _ _ _ h => h
omit IH in
theorem few_of {xs : List Expr} (h : ∀ x ∈ xs, isStar x = false) (hl : xs.length < 3) (pos : Pos) (env : PySem.Env) : ((backTo pos (starEach xs env)).all (fun x => !x.1) && (backToKw pos (keywordEach [] env)).all (fun x => x.1.isSome) && decide (xs.length + ([] : List Keyword).length + (if ([] : List Keyword).isEmpty then 0 else 1) < 30)) = true := by
  have h1 : (backTo pos (starEach xs env)).all (fun x => !x.1) = true := by
    have := backTo_plain pos env xs h
    rw [List.all_eq_true]
    intro y hy
    rw [List.any_eq_false] at this
    simpa using this y hy
  rw [h1]
  have : decide (xs.length + ([] : List Keyword).length + (if ([] : List Keyword).isEmpty then 0 else 1) < 30) = true := by simp; omega
  rw [this]
  rfl
omit IH in
theorem mut_ok {m : MM} {i : Nat} {y : Str} {xs : List Expr} {ms : EL} {p ap pos : Pos} (q : OkJ c (.l ms xs)) (k : XOk c lv X B C) (hi : X.N[i]? = some y) (hv : Vis X.env.scope y) (h1 : (y == ("__debug__" : Str)) = false) (h2 : (y == ("__classdict__" : Str)) = false) (hline : (ap.endLine == pos.line) = true) (hl : xs.length < 3)
    (hm : (match m, ms.len with | .append, 1 => true | .extend, 1 => true | .pop, 0 => true | .popAt, 1 => true | .insert, 2 => true | .clear, 0 => true | _, _ => false) = true) : PE X (.Call (.Attribute (.Name y p) (mmName m) ap) xs [] pos) (tE B C (.mut m i ms)) := by
  have pv : PE X (.Name y p) (tVar i) := pe_var hi hv h1 h2
  have ha := q.1 lv X B C k
  have few := few_of q.2.1 hl pos X.env
  cases xs with
  | nil =>
    have hz : ms.len = 0 := q.2.2.2
    have hn := q.2.2.1 rfl
    rw [hz] at hm
    have z : ∀ {σ : L2.St} {H : Hp} {Qk : VK}, tE B C (.mut m i ms) σ H Qk → tBM0 X.K "list" (rMut X.K m) (tVar i) σ H Qk := fun {σ H Qk} h => by
      obtain ⟨v, e, ty, h⟩ := s_mutG (m := m) (i := i) (t := fun σ H Qk => Qk [] H) k.K (fun σ H Qk h => by
        rw [hn] at h
        obtain ⟨γ, st, S, h⟩ := h
        rw [evL] at h
        exact h [] H γ Tr.refl S .nil) h
      exact ⟨v, e, ty, h⟩
    cases m <;> first
      | (cases hm; done)
      | skip
    · exact PE.mono (pe_bm0 PySem.F.plainAttrs_list PySem.F.slot_list_pop PySem.F.type_list_pop mPop pv rfl hline) fun σ H Qk h => z h
    · exact PE.mono (pe_bm0 PySem.F.plainAttrs_list PySem.F.slot_list_clear PySem.F.type_list_clear mClear pv rfl hline) fun σ H Qk h => z h
  | cons x r =>
    obtain ⟨s1, s2⟩ := call_hs (pos := pos) (env := X.env) q.2.1 rfl
    have hz : ms.len = (x :: r).length := q.2.2.2
    have hne : ms.len ≠ 0 := by rw [hz]; simp
    cases m with
    | append => exact PE.mono (pe_bm PySem.F.plainAttrs_list PySem.F.slot_list_append PySem.F.type_list_append mAppend pv ha rfl few hline s1 s2) fun σ H Qk h => s_mutG k.K (fun _ _ _ h => h) h
    | extend => exact PE.mono (pe_bm PySem.F.plainAttrs_list PySem.F.slot_list_extend PySem.F.type_list_extend mExtend pv ha rfl few hline s1 s2) fun σ H Qk h => s_mutG k.K (fun _ _ _ h => h) h
    | popAt => exact PE.mono (pe_bm PySem.F.plainAttrs_list PySem.F.slot_list_pop PySem.F.type_list_pop mPopAt pv ha rfl few hline s1 s2) fun σ H Qk h => s_mutG k.K (fun _ _ _ h => h) h
    | insert => exact PE.mono (pe_bm PySem.F.plainAttrs_list PySem.F.slot_list_insert PySem.F.type_list_insert mInsert pv ha rfl few hline s1 s2) fun σ H Qk h => s_mutG k.K (fun _ _ _ h => h) h
    | pop =>
      exfalso
      split at hm <;> first
        | (cases hm; done)
        | (rename_i e; exact hne e)
        | simp_all
    | clear =>
      exfalso
      split at hm <;> first
        | (cases hm; done)
        | (rename_i e; exact hne e)
        | simp_all
omit IH in
theorem ty_of (t : CT) : bootBuiltins (ctName t) = some (.type t.name) ∧ ctName t ≠ "__name__" ∧ ctName t ∈ bltNames := by
  cases t <;> exact ⟨rfl, by decide, by decide⟩
end
end Q
end
section
set_option maxHeartbeats 2000000
namespace Q
open PySem PySem.Spec PyProof.Rows
open L2 hiding cutV
section
variable {c : TC} {lv : Nat} {X : Cx} {B : Bs} {C : Ctx}
theorem s_bad {x : Expr} : PE X x (tE B C .bad) := ⟨fun _ _ _ _ _ _ ⟨γ, st, S, h⟩ => by
  rw [ev] at h
  exact h.elim⟩
theorem s_sbad {x : Stmt} : PS X x (tS B C .bad) := ⟨fun _ _ _ _ _ _ ⟨γ, st, S, h⟩ => by
  rw [ex] at h
  exact h.elim⟩
theorem kw_arg : ∀ {kws : List Keyword} {nm : List Str}, kwNames kws = some nm → kws.map (·.arg) = nm.map some := by
  intro kws
  unfold kwNames
  induction kws with
  | nil => intro nm h; simp at h; subst h; rfl
  | cons a r ih =>
    intro nm h
    simp only [List.mapM_cons, Option.bind_eq_bind] at h
    obtain ⟨x, h1, h⟩ := Option.bind_eq_some_iff.mp h
    obtain ⟨y, h2, h⟩ := Option.bind_eq_some_iff.mp h
    cases h
    rw [List.map_cons, List.map_cons, h1, ih h2]
theorem ca_eq : ∀ {x y : List CA}, kbOk.caEq x y = true → x = y
  | [], [], _ => rfl
  | .a i :: r, .a j :: t, h => by
    simp only [kbOk.caEq, Bool.and_eq_true, beq_iff_eq] at h
    rw [h.1, ca_eq h.2]
  | .d .non :: r, .d .non :: t, h => by
    rw [ca_eq (x := r) (y := t) h]
  | .d (.int i) :: r, .d (.int j) :: t, h => by
    simp only [kbOk.caEq, Bool.and_eq_true, decide_eq_true_eq] at h
    rw [h.1, ca_eq h.2]
  | .d (.bl i) :: r, .d (.bl j) :: t, h => by
    simp only [kbOk.caEq, Bool.and_eq_true, beq_iff_eq] at h
    rw [h.1, ca_eq h.2]
  | .d (.str i) :: r, .d (.str j) :: t, h => by
    simp only [kbOk.caEq, Bool.and_eq_true, decide_eq_true_eq] at h
    rw [h.1, ca_eq h.2]
theorem kb_of {f : Str} {n : Nat} {ks : List Str} {pm : List CA} (h : kbOk c f n ks pm = true) : ∃ b ∈ c.kbs, b.f = f ∧ b.n = n ∧ b.ks = ks ∧ b.pm = pm := by
  unfold kbOk at h
  obtain ⟨b, hb, h⟩ := List.any_eq_true.mp h
  simp only [Bool.and_eq_true, beq_iff_eq] at h
  obtain ⟨⟨⟨h1, h2⟩, h3⟩, h4⟩ := h
  exact ⟨b, hb, h1, h2, h3, ca_eq h4⟩
theorem lc_ok {r : TC → Jb → Bool} (IH : ∀ c j, r c j = true → OkJ c j) {ws : List Nat} {tg : Tg} {it : IT} {cond : T} {elt : E} {xe xt xi : Expr} {xc : List Expr} {scope : Scope}
    (h : lcC r c ws tg it cond elt xe xt xi xc scope = true) (k : XOk c lv X B C) :
    BlkOk X.N X.env.scope scope (ownOf c ws) ∧ (∀ i ∈ tg.slots, i ∈ ws) ∧ (∀ x, foldedSetIterable xi X.env x = pure x) ∧ PI X xt xi (tI B C it) ∧
      (∀ (s : Shared) (H : Hp) (L : Addr) (cl : List (Str × Addr)) (fp : List Addr), PG (X.blk s H scope (compEnvC scope cl L X.env) fp) xt (gTg B.K tg)) ∧ (∀ (s : Shared) (H : Hp) (L : Addr) (cl : List (Str × Addr)) (fp : List Addr), PTs (X.blk s H scope (compEnvC scope cl L X.env) fp) xc (tT B.off C cond)) ∧
      ∀ (s : Shared) (H : Hp) (L : Addr) (cl : List (Str × Addr)) (fp : List Addr), PE (X.blk s H scope (compEnvC scope cl L X.env) fp) xe (tE B.off C elt) := by
  unfold lcC at h
  simp only [Bool.and_eq_true, List.all_eq_true, List.contains_iff_mem] at h
  obtain ⟨⟨⟨⟨⟨⟨h1, h2⟩, h3⟩, h4⟩, h5⟩, h6⟩, h7⟩ := h
  exact ⟨k.blk_ok h1, h2, fold_of h3 _, IH _ _ h4 lv X B C xt k, fun s H L cl fp => by
    have := IH _ _ h5 lv _ _ C (k.blk scope s H L cl fp)
    rw [k.K]
    exact this, fun s H L cl fp => IH _ _ h6 lv _ _ C (k.blk scope s H L cl fp), fun s H L cl fp => IH _ _ h7 lv _ _ C (k.blk scope s H L cl fp)⟩
theorem lco_ok {r : TC → Jb → Bool} (IH : ∀ c j, r c j = true → OkJ c j) {ws : List Nat} {tg : Tg} {i : Nat} {y : Str} {py : Pos} {cond : T} {elt : E} {xe xt : Expr} {xc : List Expr} {scope : Scope}
    (h : lcoC r c ws tg i cond elt xe xt y xc scope = true) (k : XOk c lv X B C) :
    BlkOk X.N X.env.scope scope (ownOf c ws) ∧ (∀ i ∈ tg.slots, i ∈ ws) ∧ (∀ x, foldedSetIterable (.Name y py) X.env x = pure x) ∧ PI X xt (.Name y py) (iAny X.K (tVar i)) ∧
      (∀ (s : Shared) (H : Hp) (L : Addr) (cl : List (Str × Addr)) (fp : List Addr), PG (X.blk s H scope (compEnvC scope cl L X.env) fp) xt (gTg B.K tg)) ∧ (∀ (s : Shared) (H : Hp) (L : Addr) (cl : List (Str × Addr)) (fp : List Addr), PTs (X.blk s H scope (compEnvC scope cl L X.env) fp) xc (tT B.off C cond)) ∧
      ∀ (s : Shared) (H : Hp) (L : Addr) (cl : List (Str × Addr)) (fp : List Addr), PE (X.blk s H scope (compEnvC scope cl L X.env) fp) xe (tE B.off C elt) := by
  unfold lcoC at h
  simp only [Bool.and_eq_true, List.all_eq_true, List.contains_iff_mem] at h
  obtain ⟨⟨⟨⟨⟨h1, h2⟩, h3, h4⟩, h5⟩, h6⟩, h7⟩ := h
  obtain ⟨v1, v2, v3⟩ := k.vis h4
  exact ⟨k.blk_ok h1, h2, fold_of rfl _, pi_any (pe_var (k.at h3) v1 v2 v3), fun s H L cl fp => by
    have := IH _ _ h5 lv _ _ C (k.blk scope s H L cl fp)
    rw [k.K]
    exact this, fun s H L cl fp => IH _ _ h6 lv _ _ C (k.blk scope s H L cl fp), fun s H L cl fp => IH _ _ h7 lv _ _ C (k.blk scope s H L cl fp)⟩
theorem lc2_ok {r : TC → Jb → Bool} (IH : ∀ c j, r c j = true → OkJ c j) {ws ws1 : List Nat} {tg tg1 : Tg} {it it1 : IT} {cond cond1 : T} {elt : E} {xe xt xi xt1 xi1 : Expr} {xc xc1 : List Expr} {scope : Scope}
    (h : lc2C r c ws ws1 tg it cond tg1 it1 cond1 elt xe xt xi xc xt1 xi1 xc1 scope = true) (k : XOk c lv X B C) :
    BlkOk X.N X.env.scope scope (ownOf c ws) ∧ (∀ i ∈ tg.slots, i ∈ ws) ∧ (∀ i ∈ tg1.slots, i ∈ ws1) ∧ (∀ i ∈ ws1, i ∈ (ownOf c ws).map (·.2)) ∧ (∀ x, foldedSetIterable xi X.env x = pure x) ∧ (∀ env x, foldedSetIterable xi1 env x = pure x) ∧ PI X xt xi (tI B C it) ∧
      (∀ (s : Shared) (H : Hp) (L : Addr) (cl : List (Str × Addr)) (fp : List Addr), PG (X.blk s H scope (compEnvC scope cl L X.env) fp) xt (gTg B.K tg)) ∧ (∀ (s : Shared) (H : Hp) (L : Addr) (cl : List (Str × Addr)) (fp : List Addr), PTs (X.blk s H scope (compEnvC scope cl L X.env) fp) xc (tT B.off C cond)) ∧
      (∀ (s : Shared) (H : Hp) (L : Addr) (cl : List (Str × Addr)) (fp : List Addr), PI (X.blk s H scope (compEnvC scope cl L X.env) fp) xt1 xi1 (tI B.off C it1)) ∧
      (∀ (s : Shared) (H : Hp) (L : Addr) (cl : List (Str × Addr)) (fp : List Addr), PG (X.blk s H scope (compEnvC scope cl L X.env) fp) xt1 (gTg B.K tg1)) ∧ (∀ (s : Shared) (H : Hp) (L : Addr) (cl : List (Str × Addr)) (fp : List Addr), PTs (X.blk s H scope (compEnvC scope cl L X.env) fp) xc1 (tT B.off C cond1)) ∧
      ∀ (s : Shared) (H : Hp) (L : Addr) (cl : List (Str × Addr)) (fp : List Addr), PE (X.blk s H scope (compEnvC scope cl L X.env) fp) xe (tE B.off C elt) := by
  unfold lc2C at h
  simp only [Bool.and_eq_true, List.all_eq_true, List.contains_iff_mem] at h
  obtain ⟨⟨⟨⟨⟨⟨⟨⟨⟨⟨⟨⟨h1, h2⟩, h2'⟩, h2''⟩, h3⟩, h3'⟩, h4⟩, h5⟩, h6⟩, h7⟩, h8⟩, h9⟩, h10⟩ := h
  refine ⟨k.blk_ok h1, h2, h2', fun i hi => by rw [own_ix]; exact h2'' i hi, fold_of h3 _, fun env x => fold_of h3' env x, IH _ _ h4 lv X B C xt k, fun s H L cl fp => ?_, fun s H L cl fp => IH _ _ h6 lv _ _ C (k.blk scope s H L cl fp), fun s H L cl fp => IH _ _ h7 lv _ _ C _ (k.blk scope s H L cl fp), fun s H L cl fp => ?_,
    fun s H L cl fp => IH _ _ h9 lv _ _ C (k.blk scope s H L cl fp), fun s H L cl fp => IH _ _ h10 lv _ _ C (k.blk scope s H L cl fp)⟩
  · have := IH _ _ h5 lv _ _ C (k.blk scope s H L cl fp)
    rw [k.K]
    exact this
  · have := IH _ _ h8 lv _ _ C (k.blk scope s H L cl fp)
    rw [k.K]
    exact this
theorem dc_ok {r : TC → Jb → Bool} (IH : ∀ c j, r c j = true → OkJ c j) {ws : List Nat} {tg : Tg} {it : IT} {ek ee : E} {xk xe xt xi : Expr} {scope : Scope}
    (h : dcC r c ws tg it ek ee xk xe xt xi scope = true) (k : XOk c lv X B C) :
    BlkOk X.N X.env.scope scope (ownOf c ws) ∧ (∀ i ∈ tg.slots, i ∈ ws) ∧ (∀ x, foldedSetIterable xi X.env x = pure x) ∧ PI X xt xi (tI B C it) ∧
      (∀ (s : Shared) (H : Hp) (L : Addr) (cl : List (Str × Addr)) (fp : List Addr), PG (X.blk s H scope (compEnvC scope cl L X.env) fp) xt (gTg B.K tg)) ∧ (∀ (s : Shared) (H : Hp) (L : Addr) (cl : List (Str × Addr)) (fp : List Addr), PTs (X.blk s H scope (compEnvC scope cl L X.env) fp) [] (tT B.off C .tt)) ∧
      (∀ (s : Shared) (H : Hp) (L : Addr) (cl : List (Str × Addr)) (fp : List Addr), PE (X.blk s H scope (compEnvC scope cl L X.env) fp) xk (tE B.off C ek)) ∧
      ∀ (s : Shared) (H : Hp) (L : Addr) (cl : List (Str × Addr)) (fp : List Addr), PE (X.blk s H scope (compEnvC scope cl L X.env) fp) xe (tE B.off C ee) := by
  unfold dcC at h
  simp only [Bool.and_eq_true, List.all_eq_true, List.contains_iff_mem] at h
  obtain ⟨⟨⟨⟨⟨⟨h1, h2⟩, h3⟩, h4⟩, h5⟩, h6⟩, h7⟩ := h
  have tt : OkJ (c.blk scope) (.c .tt []) := tie_c IH rfl
  exact ⟨k.blk_ok h1, h2, fold_of h3 _, IH _ _ h4 lv X B C xt k, fun s H L cl fp => by
    have := IH _ _ h5 lv _ _ C (k.blk scope s H L cl fp)
    rw [k.K]
    exact this, fun s H L cl fp => tt lv _ _ C (k.blk scope s H L cl fp), fun s H L cl fp => IH _ _ h6 lv _ _ C (k.blk scope s H L cl fp), fun s H L cl fp => IH _ _ h7 lv _ _ C (k.blk scope s H L cl fp)⟩
theorem m1_of {xo xa : Expr} {ap pos : Pos} {n : Str} (h1 : ap.endLine = pos.line) (h2 : notMod xo = true) (h3 : isStar xa = false) : M1 X xo n ap xa pos := by
  have hs : ∀ x ∈ [xa], isStar x = false := fun x hx => by
    rw [List.mem_singleton] at hx
    rw [hx]
    exact h3
  cases xo <;> first
    | (cases h2; done)
    | exact ⟨rfl, few_of hs (by simp) pos X.env, by simpa using h1, by rw [star_of h3] <;> rfl⟩
theorem plain1 {xb : Expr} (h : isStar xb = false) (pos : Pos) (env : PySem.Env) : (backTo pos (starEach [xb] env)).any (·.1) = false :=
  backTo_plain pos env [xb] fun x hx => by
    rw [List.mem_singleton] at hx
    rw [hx]
    exact h
theorem tL_one {a : Expr} {ma : E} (na : isStar a = false) (ha : PE X a (tE B C ma)) : PA X [a] (tL B C (.cons ma .nil)) := s_cons ha s_nil (star_of na _ _)
variable {r : TC → Jb → Bool} (IH : ∀ c j, r c j = true → OkJ c j)
include IH
theorem tie_e0 {m : E} {x : Expr} (h : stepE0 r c m x = true) : OkJ c (.e m x) := by
  unfold stepE0 at h
  split at h
  · exact fun _ _ _ _ _ => s_bad
  · exact fun _ _ _ _ _ => s_c pe_non fun _ _ _ => .non
  · rw [beq_iff_eq] at h
    subst h
    exact fun _ _ _ _ _ => s_c pe_bl fun _ _ _ => .bl _
  · rw [decide_eq_true_eq] at h
    subst h
    exact fun _ _ _ _ _ => s_c pe_int fun _ _ _ => .int _
  · rw [decide_eq_true_eq] at h
    subst h
    exact fun _ _ _ _ _ => s_c pe_str fun _ _ _ => .str _
  · simp only [Bool.and_eq_true] at h
    intro lv X B C k
    obtain ⟨v1, v2, v3⟩ := k.vis h.2
    exact s_var (pe_var (k.at h.1) v1 v2 v3)
  · rename_i op a b xa op' xb _
    simp only [Bool.and_eq_true, decide_eq_true_eq] at h
    obtain ⟨⟨⟨rfl, h1⟩, h2⟩, h3⟩ := h
    refine fun lv X B C k => s_bin k.K ?_ (IH _ _ h2 lv X B C k) (IH _ _ h3 lv X B C k)
    cases op <;> first
      | (cases h1; done)
      | simp
  · exact fun lv X B C k => s_neg k.K (IH _ _ h lv X B C k)
  · exact fun lv X B C k => s_not k.K (IH _ _ h lv X B C k)
  · simp only [Bool.and_eq_true] at h
    exact fun lv X B C k => s_and (IH _ _ h.1 lv X B C k) (IH _ _ h.2 lv X B C _ k)
  · simp only [Bool.and_eq_true] at h
    exact fun lv X B C k => s_or (IH _ _ h.1 lv X B C k) (IH _ _ h.2 lv X B C _ k)
  · simp only [Bool.and_eq_true, decide_eq_true_eq, Bool.not_eq_true'] at h
    obtain ⟨⟨⟨rfl, h1⟩, h2⟩, h3⟩ := h
    exact fun lv X B C k => s_cmp k.K k.room (IH _ _ h2 lv X B C k) (IH _ _ h3 lv X B C k) h1
  · simp only [Bool.and_eq_true, decide_eq_true_eq, Bool.not_eq_true'] at h
    obtain ⟨⟨⟨⟨⟨rfl, rfl⟩, h1⟩, h2⟩, h3⟩, h4⟩ := h
    exact fun lv X B C k => s_chain k.K k.room (IH _ _ h2 lv X B C k) (IH _ _ h3 lv X B C k) (IH _ _ h4 lv X B C k) h1
  · simp only [Bool.and_eq_true] at h
    exact fun lv X B C k => s_ifx (IH _ _ h.1.1 lv X B C k) (IH _ _ h.1.2 lv X B C k) (IH _ _ h.2 lv X B C k)
  · exact fun lv X B C k => s_tup ((IH _ _ h).1 lv X B C k)
  · exact fun lv X B C k => s_lst ((IH _ _ h).1 lv X B C k)
  · exact fun lv X B C k => s_dnew
  · simp only [Bool.and_eq_true] at h
    exact fun lv X B C k => s_sl k.K (IH _ _ h.1.1 lv X B C k) (IH _ _ h.1.2 lv X B C k) (IH _ _ h.2 lv X B C k)
  · simp only [Bool.and_eq_true] at h
    exact fun lv X B C k => s_idx k.K k.room (IH _ _ h.1.2 lv X B C k) (IH _ _ h.2 lv X B C k) (plain_of h.1.1)
  · simp only [Bool.and_eq_true, beq_iff_eq] at h
    obtain ⟨⟨⟨⟨rfl, h1⟩, h1'⟩, h2⟩, h3⟩ := h
    intro lv X B C k
    obtain ⟨a, fd, ps, f1, f2, f3, f4, _⟩ := k.fns _ h1
    obtain ⟨q1, q2, q3, _⟩ := IH _ _ h3
    exact s_call k.K k.mg k.call f3 k.gd k.room (k.gl h2).1 f1 f2 (f4 h1') k.tk (k.gl h2).2 (q1 lv X B C k) q2 q3
  · simp only [Bool.and_eq_true, beq_iff_eq] at h
    obtain ⟨⟨⟨⟨⟨rfl, h1⟩, h2⟩, hb⟩, h3⟩, h4⟩ := h
    split at hb
    · rename_i nm hn
      simp only [Bool.and_eq_true, beq_iff_eq] at hb
      intro lv X B C k
      obtain ⟨a, fd, ps, f1, f2, f3, f4, f5⟩ := k.fns _ h1
      obtain ⟨q1, q2, q3, _⟩ := IH _ _ h3
      obtain ⟨p1, p2⟩ := IH _ _ h4
      obtain ⟨b, b0, b1, b2, b3, b4⟩ := kb_of hb.1
      have pb := f5 b b0 b1
      rw [b2, b3, b4] at pb
      exact s_callp k.K k.mg k.call f3 k.gd k.room (k.gl h2).1 f1 f2 pb k.tk (k.gl h2).2 (q1 lv X B C k) (p1 lv X B C k) (kw_arg hn) hb.2 q2 q3
    · cases hb
  · simp only [Bool.and_eq_true, beq_iff_eq, Bool.not_eq_true'] at h
    obtain ⟨⟨⟨⟨⟨rfl, h1⟩, rfl⟩, h3⟩, h4⟩, h5⟩ := h
    intro lv X B C k
    refine s_isi k.K (pe_callB call_isi (k.gl h1).1 (k.blt _ (by decide)) rfl (pa_cons (IH _ _ h5 lv X B C k) (pa_cons (pe_bltn (k.gl h3).1 (k.blt _ (ty_of _).2.2) (ty_of _).1 rfl (ty_of _).2.1 (k.gl h3).2) pa_nil rfl) (star_of h4 _ _)) (by decide) (k.gl h1).2 (star_of h4 _ _) rfl)
  · simp only [Bool.and_eq_true, beq_iff_eq, Bool.not_eq_true'] at h
    obtain ⟨⟨⟨⟨⟨rfl, h1⟩, rfl⟩, h2⟩, h3⟩, h4⟩ := h
    exact fun lv X B C k => s_sortedSet k.K k.calm k.room (k.gl h1).1 (k.gl h2).1 (k.blt _ (by decide)) (k.blt _ (by decide)) (tL_one h3 (IH _ _ h4 lv X B C k)) h3
  · simp only [Bool.and_eq_true, beq_iff_eq, Bool.not_eq_true'] at h
    obtain ⟨⟨⟨⟨⟨rfl, h1⟩, rfl⟩, h2⟩, h3⟩, h4⟩ := h
    exact fun lv X B C k => s_lenSet k.K k.calm k.room (k.gl h1).1 (k.gl h2).1 (k.blt _ (by decide)) (k.blt _ (by decide)) (tL_one h3 (IH _ _ h4 lv X B C k)) h3
  · simp only [Bool.and_eq_true, beq_iff_eq, Bool.not_eq_true'] at h
    obtain ⟨⟨⟨⟨⟨rfl, h1⟩, rfl⟩, h2⟩, h3⟩, h4⟩ := h
    exact fun lv X B C k => s_rg1 k.K (.inl rfl) (pe_listRg k.calm (k.gl h1).1 (k.blt _ (by decide)) (prg_1 (k.gl h2).1 (k.blt _ (by decide)) (IH _ _ h4 lv X B C k) (star_of h3 _ _)) rfl) fun σ H Qk h => h
  · simp only [Bool.and_eq_true, beq_iff_eq, Bool.not_eq_true'] at h
    obtain ⟨⟨⟨⟨⟨⟨⟨rfl, h1⟩, rfl⟩, h2⟩, h3⟩, h4⟩, h5⟩, h6⟩ := h
    exact fun lv X B C k => s_rg2 k.K (.inl rfl) (pe_listRg k.calm (k.gl h1).1 (k.blt _ (by decide)) (prg_2 (k.gl h2).1 (k.blt _ (by decide)) (IH _ _ h5 lv X B C k) (IH _ _ h6 lv X B C k) (star_of h3 _ _) (star_of h4 _ _) (plain1 h4 _ _)) rfl) fun σ H Qk h => h
  · simp only [Bool.and_eq_true, beq_iff_eq, Bool.not_eq_true'] at h
    obtain ⟨⟨⟨⟨⟨rfl, h1⟩, rfl⟩, h2⟩, h3⟩, h4⟩ := h
    exact fun lv X B C k => s_rg1 k.K (.inr rfl) (pe_tupRg k.calm (k.gl h1).1 (k.blt _ (by decide)) (prg_1 (k.gl h2).1 (k.blt _ (by decide)) (IH _ _ h4 lv X B C k) (star_of h3 _ _)) rfl) fun σ H Qk h => h
  · simp only [Bool.and_eq_true, beq_iff_eq, Bool.not_eq_true'] at h
    obtain ⟨⟨⟨⟨⟨⟨⟨rfl, h1⟩, rfl⟩, h2⟩, h3⟩, h4⟩, h5⟩, h6⟩ := h
    exact fun lv X B C k => s_rg2 k.K (.inr rfl) (pe_tupRg k.calm (k.gl h1).1 (k.blt _ (by decide)) (prg_2 (k.gl h2).1 (k.blt _ (by decide)) (IH _ _ h5 lv X B C k) (IH _ _ h6 lv X B C k) (star_of h3 _ _) (star_of h4 _ _) (plain1 h4 _ _)) rfl) fun σ H Qk h => h
  · simp only [Bool.and_eq_true, beq_iff_eq, Bool.not_eq_true'] at h
    obtain ⟨⟨⟨⟨⟨rfl, h1⟩, h2⟩, h3⟩, h4⟩, h5⟩ := h
    exact fun lv X B C k => s_get1 k.K k.room (IH _ _ h4 lv X B C k) (IH _ _ h5 lv X B C k) (m1_of h1 h2 h3)
  · intro lv X B C k
    obtain ⟨b1, b2, b3, b4, b5, b6, b7, b8⟩ := dc_ok IH h k
    have := fun pos => pe_dc (pos := pos) k.calm k.nd b4 b1 b5 b6 b7 b8 b3
    simp only [own_ix] at this
    exact PE.mono (this _) fun σ H Qk h => dc_imp b2 h
  · simp only [Bool.and_eq_true, beq_iff_eq] at h
    exact fun lv X B C k => blt_ok (IH _ _ h.2) k h.1.1 h.1.2
  · simp only [Bool.and_eq_true, beq_iff_eq, decide_eq_true_eq] at h
    obtain ⟨⟨⟨⟨⟨⟨h1, h2⟩, rfl⟩, h4⟩, h5⟩, h6⟩, h7⟩ := h
    intro lv X B C k
    obtain ⟨v1, v2, v3⟩ := k.vis h2
    exact mut_ok (IH _ _ h5) k (by rw [k.N]; exact h1) v1 v2 v3 (by simpa using h4) h6 h7
  · intro lv X B C k
    obtain ⟨b1, b2, b3, b4, b5, b6, b7⟩ := lc_ok IH h k
    have := fun pos => pe_lc (pos := pos) k.calm k.nd b4 b1 b5 b6 b7 b3
    simp only [own_ix] at this
    exact PE.mono (this _) fun σ H Qk h => lc_imp b2 h
  · intro lv X B C k
    obtain ⟨b1, b2, b3, b4, b5, b6, b7⟩ := lco_ok (py := _) IH h k
    have := fun pos => pe_lc (pos := pos) k.calm k.nd b4 b1 b5 b6 b7 b3
    simp only [own_ix] at this
    rw [← k.K] at this
    exact PE.mono (this _) fun σ H Qk h => lco_imp b2 h
  · intro lv X B C k
    obtain ⟨b1, b2, b2', b0, b3, b4, b5, b6, b7, b8, b9, b10, b11⟩ := lc2_ok IH h k
    have := fun pos => pe_lc2 (pos := pos) k.calm k.nd b5 b1 b0 b6 b7 b8 b9 b10 b11 b3 b4
    simp only [own_ix] at this
    exact PE.mono (this _) fun σ H Qk h => lc2_imp b2 b2' h
  · cases h
theorem tie_e {m : E} {x : Expr} (h : stepE r c m x = true) : OkJ c (.e m x) := by
  unfold stepE at h
  split at h
  · unfold lenT at h
    split at h
    · simp only [Bool.and_eq_true, beq_iff_eq, Bool.not_eq_true'] at h
      obtain ⟨⟨⟨⟨⟨rfl, h1⟩, rfl⟩, h2⟩, h3⟩, h4⟩ := h
      exact fun lv X B C k => s_lenSetT k.K k.calm k.room (k.gl h1).1 (k.gl h2).1 (k.blt _ (by decide)) (k.blt _ (by decide)) (tL_one h3 (IH _ _ h4 lv X B C k)) h3
    · cases h
  · exact tie_e0 IH h
/-! statements -/
omit IH in
theorem sw_name (k : XOk c lv X B C) {e : Expr} {y : Str} {py : Pos} (l : Nat) (hc : (match e with | .ListComp _ _ _ _ => true | .DictComp _ _ _ _ _ => true | x => notComp x) = true) : swapsWith e (some (.Name y py)) l X.env = pure (swB c e y py) := by
  have e1 : ∀ (elt : Expr) (gs : List Comprehension) (s : Scope) (p : Pos), swapsWith (.ListComp elt gs s p) (some (.Name y py)) l X.env = pure (swB c (.ListComp elt gs s p) y py) := by
    intro elt gs s p
    unfold swB look
    rw [← k.sc]
    rfl
  have e2 : ∀ (a b : Expr) (gs : List Comprehension) (s : Scope) (p : Pos), swapsWith (.DictComp a b gs s p) (some (.Name y py)) l X.env = pure (swB c (.DictComp a b gs s p) y py) := by
    intro a b gs s p
    unfold swB look
    rw [← k.sc]
    rfl
  cases e with
  | ListComp elt gs s p => exact e1 elt gs s p
  | SetComp => cases hc
  | DictComp a b gs s p => exact e2 a b gs s p
  | _ => rfl
omit IH in
theorem sw_none {e : Expr} (h : notComp e = true) (l : Nat) (env : PySem.Env) : swapsWith e none l env = pure false := by
  cases e <;> first
    | rfl
    | cases h
omit IH in
theorem sw_sole {e : Expr} {es : List Expr} {kt : Nat} {p : Pos} (h : notComp e = true) (l : Nat) (env : PySem.Env) : swapsWithSole [.Tuple es kt p] e l env = pure false := by
  cases e <;> first
    | rfl
    | cases h
omit IH in
theorem sw_tup {ts vs : List Expr} {kt k2 : Nat} {p p2 : Pos} {env : PySem.Env} {res : Option (List Str)} (h : swOf ts vs env.scope = some res) : swappedStores [.Tuple ts kt p] (.Tuple vs k2 p2) env = pure res := by
  have e : swappedStores [.Tuple ts kt p] (.Tuple vs k2 p2) env = (if sw1 ts vs env.scope = true then pure none else if vs.any isStar = true then pure none else if sw3 ts env.scope = true then pure none else if vs.all (foldedForSure 8) = true then pure none else
      if vs.all (constantsAlone 8) = true then ((unsupported "assign.tuple-of-constant-expressions:order-of-the-stores" : Sem PUnit) >>= fun _ => pure (some (swNm ts env.scope))) else pure (some (swNm ts env.scope))) := rfl
  rw [e]
  unfold swOf at h
  cases h1 : sw1 ts vs env.scope <;> rw [h1] at h
  · cases h2 : vs.any isStar <;> rw [h2] at h
    · cases h3 : sw3 ts env.scope <;> rw [h3] at h
      · cases h4 : vs.all (foldedForSure 8) <;> rw [h4] at h
        · cases h5 : vs.all (constantsAlone 8) <;> rw [h5] at h
          · cases h
            rfl
          · cases h
        · cases h
          rfl
      · cases h
        rfl
    · cases h
      rfl
  · cases h
    rfl
omit IH in
theorem sw_not {e : Expr} {es : List Expr} {kt : Nat} {p : Pos} (h : notTuple e = true) (env : PySem.Env) : swappedStores [.Tuple es kt p] e env = pure none := by
  cases e <;> first
    | rfl
    | cases h
omit IH in
theorem sub_asg {ek : Expr} (h : notSlice ek = true) (y : Str) (p p2 : Pos) (env : PySem.Env) (v : Value) : assign (.Subscript (.Name y p) ek p2) env v = (do
      let ov ← holding [v] (eval (.Name y p) env)
      let iv ← holding [v, ov] (eval ek env)
      standAt p2
      holding [v, ov, iv] (setItem ov iv v)
      release [v, ov, iv] []) := by
  cases ek <;> first
    | rfl
    | cases h
omit IH in
theorem sub_sole {e : Expr} (h : notComp e = true) (o ek : Expr) (p2 : Pos) (l : Nat) {env : PySem.Env} : swapsWithSole [.Subscript o ek p2] e l env = pure false := by
  cases e <;> first
    | rfl
    | cases h
omit IH in
theorem sub_sw (o ek e : Expr) (p2 : Pos) {env : PySem.Env} : swappedStores [.Subscript o ek p2] e env = pure none := rfl
omit IH in
theorem asg_tup (es : List Expr) (kt : Nat) (p : Pos) (env : PySem.Env) : (assignEach [.Tuple es kt p] env).map (·.2) = [assign (.Tuple es kt p) env] := rfl
theorem tie_s {m : S} {x : Stmt} (h : stepS r c m x = true) : OkJ c (.s m x) := by
  unfold stepS at h
  split at h
  · exact fun _ _ _ _ _ _ => s_sbad
  · simp only [Bool.and_eq_true] at h
    obtain ⟨h1, h2⟩ := h
    intro lv X B C k hp
    obtain ⟨t1, t2, t3⟩ := k.to h1
    split at h2
    · rename_i hsw
      simp only [Bool.and_eq_true, beq_iff_eq] at h2
      obtain ⟨hl, hm⟩ := h2
      unfold look at hl
      rw [← k.sc] at hl
      split at hm
      · obtain ⟨b1, b2, b3, b4, b5, b6, b7⟩ := lc_ok IH hm k
        have := fun spos => ps_setLc (spos := spos) k.calm k.nd t1 hl ((sw_name k _ rfl).trans (by rw [hsw])) b4 b1 b5 b6 b7 b3
        simp only [own_ix] at this
        exact PS.mono (this _) fun D σ H h => lc_imp b2 (asg_imp h)
      · obtain ⟨b1, b2, b2', b0, b3, b4, b5, b6, b7, b8, b9, b10, b11⟩ := lc2_ok IH hm k
        have := fun spos => ps_setLc2 (spos := spos) k.calm k.nd t1 hl ((sw_name k _ rfl).trans (by rw [hsw])) b5 b1 b0 b6 b7 b8 b9 b10 b11 b3 b4
        simp only [own_ix] at this
        exact PS.mono (this _) fun D σ H h => lc2_imp b2 b2' (asg_imp h)
      · cases hm
    · rename_i hsw
      simp only [Bool.and_eq_true] at h2
      refine s_asgv k.nd t1 t2 t3 ?_ (IH _ _ h2.2 lv X B C k)
      rw [sw_name k _ h2.1, hsw]
  · simp only [Bool.and_eq_true, Bool.or_eq_true] at h
    obtain ⟨⟨⟨h1, h2⟩, h3⟩, h4⟩ := h
    intro lv X B C k hp
    have hg := IH _ _ h1 lv X B C k
    refine (ps_asg (IH _ _ h2 lv X B C k) hg (sw_sole h3 _ _) ?_ rfl).mono fun D σ H h => by rw [← k.K]; exact tup_imp h
    rcases h4 with h4 | h4
    · exact sw_not h4 _
    · split at h4
      · split at h4
        · rename_i hw
          rw [← k.sc] at hw
          exact sw_tup hw
        · cases h4
      · cases h4
  · simp only [Bool.and_eq_true, beq_iff_eq, bne_iff_ne] at h
    obtain ⟨⟨⟨⟨⟨⟨h1, h2⟩, h3⟩, h4⟩, h5⟩, h6⟩, h7⟩ := h
    intro lv X B C k hp
    rw [← k.sc] at h6
    unfold look at h4 h5
    rw [← k.sc] at h4 h5
    exact s_par2 k.calm k.nd (k.to h1).1 (k.to h2).1 h3 h4 h5 ((IH _ _ h7).1 lv X B C k) (sw_tup h6) (sw_sole rfl _ _)
  · simp only [Bool.and_eq_true, beq_iff_eq, bne_iff_ne] at h
    obtain ⟨⟨⟨⟨⟨⟨⟨⟨⟨⟨h1, h2⟩, h2'⟩, h3⟩, h3'⟩, h3''⟩, h4⟩, h5⟩, h5'⟩, h6⟩, h7⟩ := h
    intro lv X B C k hp
    rw [← k.sc] at h6
    unfold look at h4 h5 h5'
    rw [← k.sc] at h4 h5 h5'
    exact s_par3 k.calm k.nd (k.to h1).1 (k.to h2).1 (k.to h2').1 h3 h3' h3'' h4 h5 h5' ((IH _ _ h7).1 lv X B C k) (sw_tup h6) (sw_sole rfl _ _)
  · simp only [Bool.and_eq_true] at h
    obtain ⟨⟨⟨⟨⟨h1, h2⟩, h3⟩, h4⟩, h5⟩, h6⟩ := h
    intro lv X B C k hp
    obtain ⟨v1, v2, v3⟩ := k.vis h2
    exact s_sub k.room (k.at h1) v1 v2 v3 (IH _ _ h6 lv X B C k) (IH _ _ h5 lv X B C k) (sub_asg h3 _ _ _ _) (sub_sole h4 _ _ _ _) (sub_sw _ _ _ _)
  · simp only [Bool.and_eq_true] at h
    intro lv X B C k hp
    obtain ⟨t1, t2, t3⟩ := k.to h.1
    exact s_aug k.K k.nd t1 t2 t3 (IH _ _ h.2 lv X B C k)
  · exact fun _ _ _ _ _ _ => s_doc
  · simp only [Bool.and_eq_true] at h
    exact fun lv X B C k hp => s_ex (sw_none h.1 _ _) (IH _ _ h.2 lv X B C k)
  · simp only [Bool.and_eq_true] at h
    exact fun lv X B C k hp => s_if (IH _ _ h.1.1 lv X B C k) (IH _ _ h.1.2 lv X B C k hp) (IH _ _ h.2 lv X B C k hp)
  · simp only [Bool.and_eq_true] at h
    exact fun lv X B C k hp => s_for hp k.calm (IH _ _ h.1.2 lv X B C _ k) (by rw [k.K]; exact IH _ _ h.1.1.2 lv X B C k) (IH _ _ h.2 lv X B C k hp) (fold_of h.1.1.1 _)
  · simp only [Bool.and_eq_true] at h
    exact fun lv X B C k hp => s_whl hp (IH _ _ h.1 lv X B C k) (IH _ _ h.2 lv X B C k hp)
  · exact fun lv X B C k hp => s_ret (IH _ _ h lv X B C k)
  · exact fun _ _ _ _ _ _ => s_retn
  · exact fun _ _ _ _ _ _ => s_brk
  · exact fun _ _ _ _ _ _ => s_cnt
  · exact fun _ _ _ _ _ _ => s_pass
  · cases h
theorem tie_ss {m : SL} {xs : List Stmt} (h : stepSS r c m xs = true) : OkJ c (.ss m xs) := by
  unfold stepSS at h
  split at h
  · exact fun _ _ _ _ _ _ => s_snil
  · simp only [Bool.and_eq_true] at h
    exact fun lv X B C k hp => s_scons (IH _ _ h.1 lv X B C k hp) (IH _ _ h.2 lv X B C k hp)
  · cases h
end
theorem tie_ok : ∀ (n : Nat) (c : TC) (j : Jb), tie n c j = true → OkJ c j
  | 0, _, _, h => by cases h
  | n + 1, c, j, h => by
    have IH := tie_ok n
    cases j with
    | e m x => exact tie_e IH h
    | l m x => exact tie_l IH h
    | k m x => exact tie_k IH h
    | t m x => exact tie_t IH h
    | ta m op x => exact tie_ta IH h
    | ea m op x => exact tie_ea IH h
    | o m x => exact tie_o IH h
    | i m x => exact tie_i IH h
    | g m x => exact tie_g IH h
    | gs m x => exact tie_gs IH h
    | c m x => exact tie_c IH h
    | s m x => exact tie_s IH h
    | ss m x => exact tie_ss IH h
end Q
end
section
set_option maxHeartbeats 2000000
namespace Q
open PySem PySem.Spec PyProof.Rows
open L2 hiding cutV
/-! ### the defs of a law -/
structure DefE where
  x : Str
  st : Stmt
  N : List Str
  ps : List Str
  pos : Bool
  fn : Fn
def tbl (ds : List DefE) : Tbl := fun x => (ds.find? fun d => d.x == x).map (·.fn)
def knows (ds : List DefE) : Str → Bool := fun x => ds.any fun d => d.x == x
def tcOf (ds : List DefE) (kbs : List KB) (d : DefE) : TC := ⟨d.N, defScope d.st, fun _ => true, tbl ds, knows ds, fun x => ds.any fun d => d.x == x && d.pos, kbs⟩
def scB (N ps : List Str) (sc : Scope) : Bool := (match sc.kind with | .function => true | _ => false) && !sc.isCoroutine && !sc.isGenerator && decide N.Nodup && decide (N.take ps.length = ps) && ps.all (fun x => sc.names.lookup x == some .local || sc.names.lookup x == some .cell) && sc.names.all fun y => y.2 != .free
theorem sc_of {N ps : List Str} {sc : Scope} (h : scB N ps sc = true) : FnScope N ps sc := by
  unfold scB at h
  simp only [Bool.and_eq_true, Bool.not_eq_true', decide_eq_true_eq, List.all_eq_true, Bool.or_eq_true, beq_iff_eq, bne_iff_ne] at h
  obtain ⟨⟨⟨⟨⟨⟨h1, h2⟩, h3⟩, h4⟩, h5⟩, h6⟩, h7⟩ := h
  refine ⟨?_, h2, h3, h4, h5, h6, h7⟩
  split at h1
  · assumption
  · cases h1
/-- what is decided of each def, once -/
def defB (ds : List DefE) (kbs : List KB) (d : DefE) : Bool := scB d.N d.ps (defScope d.st) && decide (d.N.length = d.fn.n) && decide (d.ps.length = d.fn.np) && decide (d.fn.np ≤ d.fn.n) && tie 1000 (tcOf ds kbs d) (.ss d.fn.body (defBody d.st))
/-- how the defs stand in the module -/
structure Stand (K : PySem.W.Frag) (mg : Str → Option Value) (ds : List DefE) (kbs : List KB) : Prop where
  fn : ∀ d ∈ ds, ∃ a fd, mg d.x = some (.ref a) ∧ FunV K d.x d.x d.st a fd ∧ (d.pos = true → Binds K fd d.ps []) ∧ ∀ b ∈ kbs, b.f = d.x → PBinds K fd d.ps b.n b.ks b.pm
  blt : ∀ x ∈ bltNames, mg x = none
section
variable {P : Program} {w : World} {K : PySem.W.Frag} {mg : Str → Option Value} {base : Heap} {ds : List DefE} {kbs : List KB}
theorem tbl_at {ds : List DefE} (nd : (ds.map (·.x)).Nodup) {d : DefE} (h : d ∈ ds) : tbl ds d.x = some d.fn := by
  unfold tbl
  induction ds with
  | nil => cases h
  | cons e r ih =>
    rw [List.map_cons, List.nodup_cons] at nd
    rw [List.find?_cons]
    rcases List.mem_cons.mp h with rfl | h
    · simp
    · have : (e.x == d.x) = false := by
        rw [beq_eq_false_iff_ne]
        intro z
        exact nd.1 (z ▸ List.mem_map_of_mem h)
      rw [this]
      exact ih nd.2 h
theorem nd_one {ds : List DefE} (nd : (ds.map (·.x)).Nodup) {d e : DefE} (hd : d ∈ ds) (he : e ∈ ds) (h : d.x = e.x) : d = e := by
  induction ds with
  | nil => cases hd
  | cons a r ih =>
    rw [List.map_cons, List.nodup_cons] at nd
    cases hd with
    | head =>
      cases he with
      | head => rfl
      | tail _ he => exact absurd (h ▸ List.mem_map_of_mem he) nd.1
    | tail _ hd =>
      cases he with
      | head => exact absurd (h ▸ List.mem_map_of_mem hd) nd.1
      | tail _ he => exact ih nd.2 hd he
theorem sp_len {T : Tbl} {n : Nat} {f : Str} {fn : Fn} (hT : T f = some fn) {vs : List V} {H : Hp} {Qk : VK} {E : XK} (h : spF K mg T n f vs H Qk E) : vs.length = fn.np := by
  obtain ⟨γ, as, g, S, h⟩ := h
  cases n with
  | zero => exact h.elim
  | succ n =>
    rw [callN, hT] at h
    dsimp only at h
    have := S.len
    split at h
    · rename_i hl
      simp at this
      omega
    · exact h.elim
theorem defs_ok (nd : (ds.map (·.x)).Nodup) (St : Stand K mg ds kbs) (hd : ∀ d ∈ ds, defB ds kbs d = true) : ∀ (n : Nat) (d : DefE), d ∈ ds → ∀ a fd, mg d.x = some (.ref a) → FunV K d.x d.x d.st a fd → FnG P w K mg base (L2.CX P w) n a fd d.ps (spF K mg (tbl ds) n d.x)
  | 0, d, _, a, fd, _, _ => ⟨fun vs H Qk E ⟨_, _, _, _, h⟩ => h.elim, fun _ _ _ _ _ _ _ _ _ _ _ _ _ _ ⟨_, _, _, _, h⟩ => h.elim⟩
  | n + 1, d, hm, a, fd, ha, F => by
    have hb := hd d hm
    unfold defB at hb
    simp only [Bool.and_eq_true, decide_eq_true_eq] at hb
    obtain ⟨⟨⟨⟨h1, h2⟩, h3⟩, h4⟩, h5⟩ := hb
    have S := sc_of h1
    have hT := tbl_at nd hm
    have hp := tie_ok _ _ _ h5
    refine fnG_of F S (fun vs H Qk E h => by rw [sp_len hT h, h3]) fun cdv A outer s H vs Qk E hG hr hsp => ?_
    refine ⟨tSs (Bs.of K mg E) ⟨callN (tbl ds) n, d.fn.np, d.fn.re, whileFuel⟩ d.fn.body, ?_, fn_body hT h2 h4 hsp⟩
    refine hp n _ _ _ { K := rfl, mg := rfl, N := rfl, nd := S.nd, sc := rfl, fn := rfl, calm := rfl, room := hr, gd := hG, tk := takes_of rfl rfl rfl rfl, call := rfl, fns := fun f hf => ?_, blt := St.blt } (passes_of rfl)
    unfold tcOf knows at hf
    obtain ⟨e, he, hx⟩ := List.any_eq_true.mp hf
    rw [beq_iff_eq] at hx
    subst hx
    obtain ⟨b, bd, g1, g2, g3, g4⟩ := St.fn e he
    refine ⟨b, bd, e.ps, g1, g2.kp, defs_ok nd St hd n e he b bd g1 g2, fun hq => g3 ?_, g4⟩
    obtain ⟨e', he', hx'⟩ := List.any_eq_true.mp (show (ds.any fun d => d.x == e.x && d.pos) = true from hq)
    simp only [Bool.and_eq_true, beq_iff_eq] at hx'
    rw [← nd_one nd he' he hx'.1]
    exact hx'.2
end
/-! ### the law's own call -/
theorem law_runs {P : Program} {w : World} {K : PySem.W.Frag} {mg mb : Str → Option Value} {C : CXT} {k : Nat} {fa a : Addr} {fd : FuncData} {x : Str} {sp : Sp} {s1 : Shared} {vs : List Value} {ns : List Int} (inK : K.In s1.heap) (hmg : s1.heap.Ns mainGlobals mg) (hmb : s1.heap.Ns builtinsNs mb) (hbt : ∀ x : Str, x ≠ "__name__" → mb x = bootBuiltins x)
    (noL : s1.heap.NoLimit) (noG : s1.gens = #[]) (hat : s1.heap.get? a = some { cls := .type "list", data := .seq vs.toArray }) (hint : IntsAre vs ns) (hlen : ns.length ≤ sizeLine) (hroom : Room k callerA) (F : ∀ base : Heap, K.In base → base.Ns mainGlobals mg → FnG P w K mg base C k fa fd [x] sp)
    (bd : BindsTo s1 fd ⟨[.ref a], []⟩ [(x, .ref a)]) (hsp : ∀ H : Hp, Only H → SqL K H a (ns.map V.int) → sp [.ref a] H (fun v _ => v = .bl true) fun _ _ _ => False) (noX : ∀ H e s', C [] H s1 (fun _ _ _ => False) e s' → False) :
    codeAny (model P w) callerA (.call (.ref fa) ⟨[.ref a], []⟩) (fun r s' => r = .ok (.ret (.bool true)) ∧ OldK s1.heap s'.heap ∧ s'.os = s1.os ∧ AllBare s'.gens) s1 := by
  have vi := vals_ints hint
  have inner : ∀ H : Hp, Only H → SqL K H a (ns.map V.int) → HOk P w H s1.heap → (∀ b, H b ≠ none → b = a) → (H a ≠ none → K.lookup a = none) → codeAny (model P w) callerA (.call (.ref fa) ⟨[.ref a], []⟩) (fun r s' => r = .ok (.ret (.bool true)) ∧ OldK s1.heap s'.heap ∧ s'.os = s1.os ∧ AllBare s'.gens) s1 := by
    intro H only sq hok one notK
    have at_a : ∀ {b : Addr}, H b ≠ none → b = a := fun {b} q => one b q
    have hid : ∀ {b : Addr} {o : Obj}, s1.heap.get? b = some o → H b = none → (hidT s1.heap H).get? b = some o := fun e q => hidT_get e q
    have free : ∀ {b : Addr} {o : Obj} {es : Array DictEntry} {ep : Nat}, s1.heap.get? b = some o → o.data = .dict es ep → H b = none := fun {b o es ep} e dd => Classical.byContradiction fun q => by
      have z := at_a q
      subst z
      rw [hat] at e
      cases e
      cases (show Data.seq vs.toArray _ = Data.dict es ep from dd)
    have ns_ : ∀ {b : Addr} {m : Str → Option Value}, s1.heap.Ns b m → (hidT s1.heap H).Ns b m := fun {b m} ⟨o, es, ep, e, dd, rest⟩ => ⟨o, es, ep, hid e (free e dd), dd, rest⟩
    have kin : K.In (hidT s1.heap H) := fun b o e => hid (inK b o e) (Classical.byContradiction fun q => by
      have z := at_a q
      subst z
      rw [notK q] at e
      cases e)
    have md : Mod K mg (hidT s1.heap H) := ⟨kin, ns_ hmg, ⟨mb, ns_ hmb, hbt⟩, by
      obtain ⟨mc, h1, h2⟩ := noL
      exact ⟨mc, ns_ h1, h2⟩⟩
    have en : Env0 P w K mg (hidT s1.heap H) callerA [] s1 H := ⟨rfl, md, fun b o e => of_hidT e, Nat.le_of_eq (hidT_size _ _), trivial, fun b hb => (by cases hb), hok, .of_eq noG⟩
    refine codeAny_mono ((F _ kin (ns_ hmg)).go callerA [] s1 H ⟨[.ref a], []⟩ [.ref a] [.ref a] _ _ rfl hroom en bd (.cons rfl .nil) (hsp H only sq)) fun r s' h => ?_
    rcases r with e | fl
    · exact (noX H e s' h).elim
    · cases fl <;> first
        | exact False.elim h
        | skip
      obtain ⟨v, H', e1, e2, un, hok', rv, q⟩ := h
      cases (show v = .bl true from q)
      cases (show _ = Value.bool true from rv)
      refine ⟨rfl, OldK.of_keep fun b o e => ?_, e1, e2⟩
      by_cases q : H b = none
      · exact un.keep b o e q (by intro z; cases z) (by simp)
      · rcases only b with z | ⟨ob, xs, z⟩
        · exact absurd z q
        · obtain ⟨f1, _⟩ := hok b _ z
          obtain ⟨f2, _⟩ := hok' b _ (un.frzs b ob _ z)
          rw [e] at f1
          cases f1
          exact f2
  by_cases hk : K.lookup a = none
  · let H : Hp := fun b => if b = a then some (.frz { cls := .type "list", data := .seq vs.toArray } (.lst (ns.map V.int))) else none
    have Ha : H a = some (.frz { cls := .type "list", data := .seq vs.toArray } (.lst (ns.map V.int))) := if_pos rfl
    have Hn : ∀ b, b ≠ a → H b = none := fun b q => if_neg q
    refine inner H (fun b => ?_) (.inl (.inr ⟨_, Ha⟩)) (fun b u z => ?_) (fun b q => Classical.byContradiction fun z => q (Hn b z)) fun _ => hk
    · by_cases q : b = a
      · subst q
        exact .inr ⟨_, _, Ha⟩
      · exact .inl (Hn b q)
    · by_cases q : b = a
      · subst q
        rw [Ha] at z
        cases z
        exact ⟨hat, by simpa using hlen, vs, _, vi, hat⟩
      · rw [Hn b q] at z
        cases z
  · obtain ⟨o, ho⟩ := Option.ne_none_iff_exists'.mp hk
    have e := inK a o ho
    rw [hat] at e
    cases e
    exact inner (fun _ => none) (fun _ => .inl rfl) (.inr ⟨_, vs.toArray, _, ho, rfl, rfl, rfl, by simpa [hint.length] using hlen, by simpa using vi⟩) (fun b u z => by cases z) (fun b z => absurd rfl z) fun z => absurd rfl z
/-- the promise of a law whose run in the small language is true at every script -/
theorem law_sp {K : PySem.W.Frag} {mg : Str → Option Value} {ds : List DefE} {n : Nat} {a : Addr} {ns : List Int} {H : Hp} (hO : Only H) (hS : SqL K H a (ns.map V.int)) (h : ∃ as' g', callN (tbl ds) n "law" [.v (.scr ns)] [] = .ret (.v (.bl true)) as' g') :
    spF K mg (tbl ds) n "law" [.ref a] H (fun v _ => v = .bl true) fun _ _ _ => False := by
  obtain ⟨as', g', h⟩ := h
  refine ⟨⟨[], []⟩, [.v (.scr ns)], [], ?_, ?_⟩
  · have mu0 : ∀ b, ¬ Mu ⟨[], []⟩ ([V.ref a].map some) (wor [.v (.scr ns)] []) b := fun b m => by
      rcases m with (m | m) | ⟨i, d, e, _⟩
      · cases m
      · cases m
      · rw [env_map] at e
        cases i with
        | zero => cases e
        | succ i => simp at e
    refine ⟨rfl, fun i s e => ?_, fun i j d d' b e1 e2 q1 q2 => ?_, fun b m => ?_, fun i d b e q => ?_, ⟨rfl, rfl⟩⟩
    · rw [env_map] at e
      cases i with
      | zero =>
        cases e
        refine ⟨.ref a, rfl, Rep.scr ?_⟩
        rcases hS with z | z
        · exact .inl ⟨z, mu0 a⟩
        · exact .inr z
      | succ i => simp at e
    · rw [env_map] at e1
      cases i with
      | zero => cases e1
      | succ i => simp at e1
    · rcases m with m | m <;> cases m
    · rw [env_map] at e
      cases i with
      | zero => cases e
      | succ i => simp at e
  · rw [h]
    intro v H' γ' T S R
    have R : Rep K H' _ γ' v (.bl true) := R
    cases R
    rfl
/-- a law by its run in the small language -/
theorem law_walk {l : PySem.W.OpenLaw} {n lv : Nat} {q : Program} {loose : List Str} {XP : (Str → Option Value) → Heap → Prop} {YP : World → Heap → Prop} {d : DefRec} {K : Params → PySem.W.Frag} {ds : List DefE} {kbs : List KB} {e : DefE} (hn : l.most = some n) (hn2 : n ≤ sizeLine) (hdf : d.params.defaults = []) (hr : Room lv callerA)
    (hY : ∀ (w : World) (h : Heap), YP w h → (K w.params).In h) (St : ∀ (w : World) (mg : Str → Option Value) (fa : Addr) (h : Heap), (K w.params).In h → h.Ns mainGlobals mg → mg d.name = some (.ref fa) → Stand (K w.params) mg ds kbs)
    (nd : (ds.map (·.x)).Nodup) (hd : ∀ d ∈ ds, defB ds kbs d = true) (he : e ∈ ds) (h1 : e.x = d.name) (h2 : e.x = "law") (h3 : e.ps = [("script" : Str)]) (h4 : e.pos = true) (hlaw : ∀ ns : List Int, ns.length ≤ n → ∃ as' g', callN (tbl ds) lv "law" [.v (.scr ns)] [] = .ret (.v (.bl true)) as' g') :
    PySem.W.WalkO q loose XP YP l.row.toRowW d [] (fun f vs => PySem.call f vs) := by
  refine Att.attach_call hn hdf fun w s0 s1 mg mb fa o pm cd doc a vs ns G Y ho hdd hcd hmg hobj hints hlen hg => ?_
  have kin := hY w _ Y
  have stand := St w mg fa _ kin G.T.g hmg
  obtain ⟨fa', fd, g1, g2, g3, _⟩ := stand.fn e he
  rw [h1, hmg] at g1
  cases g1
  refine law_runs (x := "script") (fd := fd) (C := L2.CX l.prog w) (sp := spF (K w.params) mg (tbl ds) lv "law") kin G.T.g G.T.b G.T.builtins G.T.nolimit hg hobj hints (Nat.le_trans hlen hn2) hr (fun base _ _ => ?_) ?_ (fun H hO hS => law_sp hO hS (hlaw ns hlen)) fun H e s' z => ?_
  · have F := defs_ok (P := l.prog) (w := w) (base := base) nd stand hd lv e he fa fd (by rw [h1]; exact hmg) g2
    rw [h3, h2] at F
    exact F
  · have b := g3 h4 s1 [.ref a] kin (by rw [h3]; rfl)
    rw [h3] at b
    exact b
  · exact z.elim fun _ ⟨_, _, _, _, _, _, _, _, _, _, _, z⟩ => z
/-! ### how the defs stand, one by one -/
def One (K : PySem.W.Frag) (mg : Str → Option Value) (kbs : List KB) (d : DefE) : Prop := ∃ a fd, mg d.x = some (.ref a) ∧ FunV K d.x d.x d.st a fd ∧ (d.pos = true → Binds K fd d.ps []) ∧ ∀ b ∈ kbs, b.f = d.x → PBinds K fd d.ps b.n b.ks b.pm
theorem one_mk {K : PySem.W.Frag} {h : Heap} {mg : Str → Option Value} {kbs : List KB} (d : DefE) {f : Addr} {oc kV doc pm cd ct : Value} {od an : Option Addr} {sl : Array (Option Value)} (X : K.In h) (G : h.Ns mainGlobals mg)
    (hp : d.pos = true → ∀ (kV doc pm : Value) (an : Option Addr) (cdv ct : Value) (us : List Value), us.length = d.ps.length → bindArgs (PySem.W.fnOf d.x d.x (defArgs d.st) (defBody d.st) (defScope d.st) .none kV doc pm an cdv ct) ⟨us, []⟩ = pure (d.ps.zip us))
    (hk : ∀ b ∈ kbs, b.f = d.x → ∀ (kV doc pm : Value) (an : Option Addr) (cdv ct : Value) (us ws : List Value), us.length = b.n → ws.length = b.ks.length → ∃ zs, bindArgs (PySem.W.fnOf d.x d.x (defArgs d.st) (defBody d.st) (defScope d.st) .none kV doc pm an cdv ct) ⟨us, b.ks.zip ws⟩ = pure (d.ps.zip zs) ∧ Picks (us ++ ws) b.pm zs)
    (a : PySem.W.nsIn K mainGlobals d.x = some (some (.ref f))) (l : K.lookup f = some ⟨oc, od, .func (PySem.W.fnOf d.x d.x (defArgs d.st) (defBody d.st) (defScope d.st) .none kV doc pm an cd ct), sl⟩) (c : PySem.W.codeIn K cd d.x = true) (k : PySem.W.keepIn K (.ref f) = true) : One K mg kbs d := by
  have F := fun_mk l c k
  refine ⟨f, _, PySem.W.mg_of X G a, .of F, fun q => F.binds (hp q), fun b hb hx => ⟨fun s us ws _ h1 h2 => ?_⟩⟩
  obtain ⟨zs, e1, e2⟩ := hk b hb hx kV doc pm an cd ct us ws h1 h2
  exact ⟨zs, .of_eq e1, e2⟩
/-- a def with defaults: they lie in a tuple at `T` -/
theorem one_mkD {K : PySem.W.Frag} {h : Heap} {mg : Str → Option Value} {kbs : List KB} (d : DefE) {f T : Addr} {o : Obj} {dv : Array Value} {nn : Nat} {oc kV doc pm cd ct : Value} {od an : Option Addr} {sl : Array (Option Value)} (X : K.In h) (G : h.Ns mainGlobals mg)
    (hp : d.pos = true → ∀ (T : Addr) (kV doc pm : Value) (an : Option Addr) (cdv ct : Value) (us : List Value), us.length = d.ps.length → ∃ k, bindArgs (PySem.W.fnOf d.x d.x (defArgs d.st) (defBody d.st) (defScope d.st) (.ref T) kV doc pm an cdv ct) ⟨us, []⟩ = seqItems? (.ref T) >>= k ∧ k (some dv) = pure (d.ps.zip us))
    (hk : ∀ b ∈ kbs, b.f = d.x → ∀ (T : Addr) (kV doc pm : Value) (an : Option Addr) (cdv ct : Value) (us ws : List Value), us.length = b.n → ws.length = b.ks.length → ∃ zs, (∃ k, bindArgs (PySem.W.fnOf d.x d.x (defArgs d.st) (defBody d.st) (defScope d.st) (.ref T) kV doc pm an cdv ct) ⟨us, b.ks.zip ws⟩ = seqItems? (.ref T) >>= k ∧ k (some dv) = pure (d.ps.zip zs)) ∧ Picks (us ++ ws) b.pm zs)
    (a : PySem.W.nsIn K mainGlobals d.x = some (some (.ref f))) (l : K.lookup f = some ⟨oc, od, .func (PySem.W.fnOf d.x d.x (defArgs d.st) (defBody d.st) (defScope d.st) (.ref T) kV doc pm an cd ct), sl⟩) (c : PySem.W.codeIn K cd d.x = true) (k : PySem.W.keepIn K (.ref f) = true)
    (t : K.lookup T = some o) (hs : o.data = .seq dv nn) : One K mg kbs d := by
  have F : FunV K d.x d.x d.st f _ := ⟨⟨oc, od, .ref T, kV, doc, pm, an, cd, ct, sl, rfl, l, c⟩, k⟩
  refine ⟨f, _, PySem.W.mg_of X G a, F, fun q s us I hl => ?_, fun b hb hx => ⟨fun s us ws I h1 h2 => ?_⟩⟩
  · rw [List.append_nil] at hl ⊢
    obtain ⟨kk, e1, e2⟩ := hp q T kV doc pm an cd ct us hl
    exact PySem.W.binds_K I rfl t hs e1 e2
  obtain ⟨zs, ⟨kk, e1, e2⟩, e3⟩ := hk b hb hx T kV doc pm an cd ct us ws h1 h2
  exact ⟨zs, PySem.W.binds_K I rfl t hs e1 e2, e3⟩
theorem df_non : DfR .non .none := ⟨.non, rfl, fun _ _ _ _ => .non⟩
theorem df_bl (b : Bool) : DfR (.bl b) (.bool b) := ⟨.bl b, rfl, fun _ _ _ _ => .bl b⟩
theorem stand_mk {K : PySem.W.Frag} {h : Heap} {mg : Str → Option Value} {ds : List DefE} {kbs : List KB} (X : K.In h) (G : h.Ns mainGlobals mg) (ho : ∀ d ∈ ds, One K mg kbs d) (hb : ∀ x ∈ bltNames, PySem.W.nsIn K mainGlobals x = some none) : Stand K mg ds kbs :=
  ⟨ho, fun x hx => PySem.W.mg_none_of X G (hb x hx)⟩
end Q
end
section
set_option maxHeartbeats 4000000
namespace Q
open PySem
/-- nothing: it ties a run to its ends, so that simp leaves the ends alone -/
structure Dm {α β : Sort _} (q : α) (e : β) : Type
def Out.wq {α : Type} (o : Out α) (q : α → ST → Prop) (e : XV → ST → Prop) (_ : Dm q e := ⟨⟩) : Prop := o.wp q e
def COut.wq (o : COut) (q : SV → List SV → List GI → Prop) (e : XV → List SV → List GI → Prop) (_ : Dm q e := ⟨⟩) : Prop := o.wp q e
@[simp] theorem wq_ok {α : Type} (a : α) (st : ST) (q : α → ST → Prop) (e : XV → ST → Prop) : (Out.ok a st).wq q e ↔ q a st := Iff.rfl
@[simp] theorem wq_exc {α : Type} (x : XV) (st : ST) (q : α → ST → Prop) (e : XV → ST → Prop) : (Out.exc x st : Out α).wq q e ↔ e x st := Iff.rfl
@[simp] theorem wq_bad {α : Type} (q : α → ST → Prop) (e : XV → ST → Prop) : (Out.bad : Out α).wq q e ↔ False := Iff.rfl
theorem wq_bind {α β : Type} (o : Out α) (f : α → ST → Out β) (q : β → ST → Prop) (e : XV → ST → Prop) : (o.bind f).wq q e ↔ o.wq (fun a st => (f a st).wq q e) e := wp_bind o f q e
theorem wq_mono {α : Type} {o : Out α} {q q' : α → ST → Prop} {e e' : XV → ST → Prop} (h : o.wq q e) (hq : ∀ a st, q a st → q' a st) (he : ∀ x st, e x st → e' x st) : o.wq q' e' := wp_mono h hq he
/-! ### runs, by what they end in -/
@[simp] theorem cwp_ret (r : SV) (as : List SV) (g : List GI) (q : SV → List SV → List GI → Prop) (e : XV → List SV → List GI → Prop) : (COut.ret r as g).wq q e ↔ q r as g := Iff.rfl
@[simp] theorem cwp_exc (x : XV) (as : List SV) (g : List GI) (q : SV → List SV → List GI → Prop) (e : XV → List SV → List GI → Prop) : (COut.exc x as g).wq q e ↔ e x as g := Iff.rfl
@[simp] theorem cwp_bad (q : SV → List SV → List GI → Prop) (e : XV → List SV → List GI → Prop) : COut.bad.wq q e ↔ False := Iff.rfl
structure Post where
  nx : ST → Prop
  rt : ER → ST → Prop
  bk : ST → Prop
  ct : ST → Prop
  xc : XV → ST → Prop
def SO.wq (o : SO) (p : Post) (_ : Dm p p := ⟨⟩) : Prop := match o with
  | .nx st => p.nx st
  | .ret r st => p.rt r st
  | .bk st => p.bk st
  | .ct st => p.ct st
  | .exc x st => p.xc x st
  | .bad => False
@[simp] theorem sw_nx (st : ST) (p : Post) : (SO.nx st).wq p ↔ p.nx st := Iff.rfl
@[simp] theorem sw_ret (r : ER) (st : ST) (p : Post) : (SO.ret r st).wq p ↔ p.rt r st := Iff.rfl
@[simp] theorem sw_bk (st : ST) (p : Post) : (SO.bk st).wq p ↔ p.bk st := Iff.rfl
@[simp] theorem sw_ct (st : ST) (p : Post) : (SO.ct st).wq p ↔ p.ct st := Iff.rfl
@[simp] theorem sw_exc (x : XV) (st : ST) (p : Post) : (SO.exc x st).wq p ↔ p.xc x st := Iff.rfl
@[simp] theorem sw_bad (p : Post) : SO.bad.wq p ↔ False := Iff.rfl
@[simp] theorem sw_so {α : Type} (o : Out α) (f : α → ST → SO) (p : Post) : (o.so f).wq p ↔ o.wq (fun a st => (f a st).wq p) p.xc := by cases o <;> exact Iff.rfl
@[simp] theorem sw_seq (o : SO) (f : ST → SO) (p : Post) : (o.seq f).wq p ↔ o.wq { p with nx := fun st => (f st).wq p } := by cases o <;> exact Iff.rfl
@[simp] theorem sw_turn (o : SO) (f : ST → SO) (p : Post) : (o.turn f).wq p ↔ o.wq { p with nx := fun st => (f st).wq p, ct := fun st => (f st).wq p, bk := p.nx } := by cases o <;> exact Iff.rfl
@[simp] theorem sw_ite (c : Prop) [Decidable c] (a b : SO) (p : Post) : (if c then a else b).wq p ↔ if c then a.wq p else b.wq p := by split <;> exact Iff.rfl
@[simp] theorem ow_ite {α : Type} (c : Prop) [Decidable c] (a b : Out α) (q : α → ST → Prop) (e : XV → ST → Prop) : (if c then a else b).wq q e ↔ if c then a.wq q e else b.wq q e := by split <;> exact Iff.rfl
@[simp] theorem ow_bind {α β : Type} (o : Out α) (f : α → ST → Out β) (q : β → ST → Prop) (e : XV → ST → Prop) : (o.bind f).wq q e ↔ o.wq (fun a st => (f a st).wq q e) e := wq_bind o f q e
@[simp] theorem ow_no {α : Type} (o : Out α) (q : α → ST → Prop) (e : XV → ST → Prop) : (noExc o).wq q e ↔ o.wq q fun _ _ => False := noExc_wp o q e
@[simp] theorem ow_frz {α : Type} (o : Out ER) (f : PV → ST → Out α) (q : α → ST → Prop) (e : XV → ST → Prop) : (frzO o f).wq q e ↔ o.wq (fun r st => match r.frz st with | some (p, st') => (f p st').wq q e | none => False) e := by
  rw [frzO, wq_bind]
  refine iff_of_eq (congrArg (fun z => o.wq z e) (funext fun r => funext fun st => ?_))
  cases r.frz st <;> rfl
@[simp] theorem ow_lift {α : Type} (o : Option α) (st : ST) (q : α → ST → Prop) (e : XV → ST → Prop) : (lift o st).wq q e ↔ ∃ a, o = some a ∧ q a st := by
  cases o with
  | none => exact ⟨False.elim, fun ⟨_, h, _⟩ => by cases h⟩
  | some a => exact ⟨fun h => ⟨a, rfl, h⟩, fun ⟨_, h, q⟩ => by cases h; exact q⟩
@[simp] theorem ow_call (C : Ctx) (f : Str) (es : List ER) (st : ST) (q : ER → ST → Prop) (e : XV → ST → Prop) : (callO C f es st).wq q e ↔ ∃ as, svAll st es = some as ∧ (slotsOf es).Nodup ∧ (C.call f as st.g).wq (fun r as' g' => q r.er (back es as' { st with g := g' })) fun x as' g' => e x (back es as' { st with g := g' }) := by
  unfold callO
  cases svAll st es with
  | none => exact ⟨False.elim, fun ⟨_, h, _⟩ => by cases h⟩
  | some as =>
    by_cases nd : (slotsOf es).Nodup
    · dsimp only
      rw [if_pos nd]
      constructor
      · intro h
        refine ⟨as, rfl, nd, ?_⟩
        revert h
        cases C.call f as st.g <;> exact id
      · rintro ⟨_, h, _, k⟩
        cases h
        revert k
        cases C.call f as st.g <;> exact id
    · dsimp only
      rw [if_neg nd]
      exact ⟨False.elim, fun ⟨_, _, h, _⟩ => nd h⟩
theorem call_wp {T : Tbl} {n : Nat} {f : Str} {fn : Fn} {as bs : List SV} {g : List GI} {q : SV → List SV → List GI → Prop} {e : XV → List SV → List GI → Prop} (hT : T f = some fn) (hl : as.length = fn.np) (hf : frzArgs fn.re 0 as = some bs)
    (h : (exs ⟨callN T n, fn.np, fn.re, whileFuel⟩ fn.body ⟨bs.map some ++ List.replicate (fn.n - fn.np) none, g⟩).wq ⟨fun st => (retO fn bs (.v .non) st).wq q e, fun r st => (retO fn bs r st).wq q e, fun _ => False, fun _ => False, fun x st => (match finals fn.re st.env 0 bs with | some cs => COut.exc x cs st.g | none => .bad).wq q e⟩) :
    (callN T (n + 1) f as g).wq q e := by
  rw [callN, hT]
  dsimp only
  rw [if_pos hl, hf]
  dsimp only
  revert h
  cases exs ⟨callN T n, fn.np, fn.re, whileFuel⟩ fn.body ⟨bs.map some ++ List.replicate (fn.n - fn.np) none, g⟩ <;> exact id
/-! ### loops -/
theorem map_wp {F : PV → ST → Out (List PV)} {e : XV → ST → Prop} {xs : List PV} (P : Nat → List PV → ST → Prop) (step : ∀ i x acc st, xs[i]? = some x → P i acc st → (F x st).wq (fun a st' => P (i + 1) (acc ++ a) st') e) {st : ST} {q : List PV → ST → Prop}
    (h0 : P 0 [] st) (hq : ∀ r st', P xs.length r st' → q r st') : (mapO F xs st).wq q e := by
  have key : ∀ (ys : List PV) (i : Nat) (acc : List PV) (st : ST), xs.drop i = ys → i ≤ xs.length → P i acc st → (mapO F ys st).wq (fun r st' => P xs.length (acc ++ r) st') e := by
    intro ys
    induction ys with
    | nil =>
      intro i acc st hd hi hp
      have : i = xs.length := by
        have := congrArg List.length hd
        simp at this
        omega
      subst this
      rw [mapO, wq_ok, List.append_nil]
      exact hp
    | cons y ys ih =>
      intro i acc st hd hi hp
      have hx : xs[i]? = some y := by
        rw [← List.head?_drop, hd]
        rfl
      have hlt := (List.getElem?_eq_some_iff.mp hx).1
      rw [mapO, wq_bind]
      refine wq_mono (step i y acc st hx hp) (fun a st' h => ?_) fun _ _ h => h
      rw [wq_bind]
      have hd' : xs.drop (i + 1) = ys := by
        rw [← List.drop_drop, hd]
        rfl
      refine wq_mono (ih (i + 1) (acc ++ a) st' hd' hlt h) (fun b st'' h => ?_) fun _ _ h => h
      rw [List.append_assoc] at h
      exact h
  refine wq_mono (key xs 0 [] st rfl (Nat.zero_le _) h0) (fun r st' h => hq r st' ?_) fun _ _ h => h
  simpa using h
theorem for_wp {F : PV → ST → SO} {p : Post} {xs : List PV} (P : Nat → ST → Prop) (step : ∀ i x st, xs[i]? = some x → P i st → (F x st).wq { p with nx := P (i + 1), ct := P (i + 1), bk := p.nx }) {st : ST} (h0 : P 0 st) (hq : ∀ st', P xs.length st' → p.nx st') : (forO F xs st).wq p := by
  have key : ∀ (ys : List PV) (i : Nat) (st : ST), xs.drop i = ys → i ≤ xs.length → P i st → (forO F ys st).wq p := by
    intro ys
    induction ys with
    | nil =>
      intro i st hd hi hp
      have : i = xs.length := by
        have := congrArg List.length hd
        simp at this
        omega
      subst this
      exact hq st hp
    | cons y ys ih =>
      intro i st hd hi hp
      have hx : xs[i]? = some y := by
        rw [← List.head?_drop, hd]
        rfl
      have hlt := (List.getElem?_eq_some_iff.mp hx).1
      have hd' : xs.drop (i + 1) = ys := by
        rw [← List.drop_drop, hd]
        rfl
      have s := step i y st hx hp
      rw [forO, sw_turn]
      revert s
      cases F y st with
      | nx st' => exact fun s => ih (i + 1) st' hd' hlt s
      | ct st' => exact fun s => ih (i + 1) st' hd' hlt s
      | bk st' => exact id
      | ret r st' => exact id
      | exc x st' => exact id
      | bad => exact id
  exact key xs 0 st rfl (Nat.zero_le _) h0
theorem lcF_ok {tg : Tg} {ws : List Nat} {t : ST → Out Bool} {k : ST → Out (List PV)} {x : PV} {st st' : ST} {q : List PV → ST → Prop} {e : XV → ST → Prop} (hp : putTo tg x (wipeS st ws) = some st') (h : (t st').wq (fun b st => if b = true then (k st).wq (fun ps st => q ps (wipeS st ws)) e else q [] (wipeS st ws)) e) :
    (lcF tg ws t k x st).wq q e := by
  unfold lcF
  rw [hp]
  dsimp only
  rw [wq_bind]
  refine wq_mono h (fun b st h => ?_) fun _ _ h => h
  cases b with
  | true =>
    rw [if_pos rfl] at h
    rw [if_pos rfl, wq_bind]
    exact h
  | false => exact h
/-! ### sums of bits -/
theorem log_lt {i : Int} {k : Nat} (h : i.natAbs < 2 ^ k) (hk : 0 < k) : i.natAbs.log2 < k := by
  by_cases h0 : i.natAbs = 0
  · rw [h0]
    simpa using hk
  · exact (Nat.log2_lt h0).mpr h
theorem mul_ok {i j : Int} {k l : Nat} (h1 : i.natAbs < 2 ^ k) (h2 : j.natAbs < 2 ^ l) (h3 : 0 < k) (h4 : 0 < l) (h5 : k + l < 1000000) : mulOk i j = true := by
  unfold mulOk
  have a := log_lt h1 h3
  have b := log_lt h2 h4
  rw [decide_eq_true_eq]
  omega
theorem bd_mul {i j : Int} {k l : Nat} (h1 : i.natAbs < 2 ^ k) (h2 : j.natAbs < 2 ^ l) : (i * j).natAbs < 2 ^ (k + l) := by
  rw [Int.natAbs_mul, Nat.pow_add]
  exact Nat.mul_lt_mul'' h1 h2
theorem bd_add {i j : Int} {k : Nat} (h1 : i.natAbs < 2 ^ k) (h2 : j.natAbs < 2 ^ k) : (i + j).natAbs < 2 ^ (k + 1) := by
  have := Int.natAbs_add_le i j
  rw [Nat.pow_succ]
  omega
theorem bd_up {i : Int} {k l : Nat} (h : i.natAbs < 2 ^ k) (hl : k ≤ l) : i.natAbs < 2 ^ l := Nat.lt_of_lt_of_le h (Nat.pow_le_pow_right (by decide) hl)
/-- behind the first k statements -/
def SL.drop : Nat → SL → SL
  | 0, l => l
  | _ + 1, .nil => .nil
  | n + 1, .cons _ r => SL.drop n r
end Q
end
section
set_option maxHeartbeats 4000000
namespace Q
open PySem
/-! ### rules of evaluation, by what comes behind -/
/-- what is there, and so; simp leaves what comes behind alone until it is there -/
def OW {α : Type} (o : Option α) (P : α → Prop) (_ : Dm P P := ⟨⟩) : Prop := ∃ a, o = some a ∧ P a
@[simp] theorem OW_some {α : Type} {a : α} {P : α → Prop} : OW (some a) P ↔ P a := ⟨fun ⟨_, h, q⟩ => (by cases h; exact q), fun h => ⟨a, rfl, h⟩⟩
@[simp] theorem OW_none {α : Type} {P : α → Prop} : OW none P ↔ False := ⟨fun ⟨_, h, _⟩ => (by cases h), False.elim⟩
@[simp] theorem OW_ite {α : Type} {c : Prop} [Decidable c] {a b : Option α} {P : α → Prop} : OW (if c then a else b) P ↔ if c then OW a P else OW b P := by split <;> exact Iff.rfl
@[simp] theorem OW_map {α β : Type} {f : α → β} {o : Option α} {P : β → Prop} : OW (o.map f) P ↔ OW o fun a => P (f a) := by cases o <;> simp
@[simp] theorem OW_bind {α β : Type} {f : α → Option β} {o : Option α} {P : β → Prop} : OW (o.bind f) P ↔ OW o fun a => OW (f a) P := by cases o <;> simp
theorem OW_is {α : Type} {o : Option α} {P : α → Prop} : OW o P ↔ ∃ a, o = some a ∧ P a := Iff.rfl
theorem wqc {α : Type} {o : Out α} {q q' : α → ST → Prop} {e : XV → ST → Prop} (h : ∀ a st, q a st ↔ q' a st) : o.wq q e ↔ o.wq q' e :=
  ⟨fun x => wq_mono x (fun a st => (h a st).mp) fun _ _ h => h, fun x => wq_mono x (fun a st => (h a st).mpr) fun _ _ h => h⟩
section
variable {C : Ctx} {st : ST} {q : ER → ST → Prop} {e : XV → ST → Prop}
@[simp] theorem v_c {p : PV} : (ev C (.c p) st).wq q e ↔ q (.v p) st := by rw [ev]; rfl
@[simp] theorem v_gc {x : Str} {p : PV} : (ev C (.gc x p) st).wq q e ↔ q (.v p) st := by rw [ev]; rfl
@[simp] theorem v_var {i : Nat} : (ev C (.var i) st).wq q e ↔ (match envAt st i with | some (.v p) => q (.v p) st | some (.own _) => q (.slot i) st | none => False) := by
  rw [ev]
  cases envAt st i with
  | none => exact Iff.rfl
  | some s => cases s <;> exact Iff.rfl
@[simp] theorem v_bin {op : Operator} {a b : E} : (ev C (.bin op a b) st).wq q e ↔ (ev C a st).wq (fun x st => (ev C b st).wq (fun y st => OW (binO op (x.get st) (y.get st)) (fun r => q r st)) e) e := by
  rw [ev, ow_bind]
  exact wqc fun x st => by rw [ow_bind]; exact wqc fun y st => ow_lift ..
@[simp] theorem v_neg {a : E} : (ev C (.neg a) st).wq q e ↔ (ev C a st).wq (fun x st => match x.get st with | .v (.int i) => q (.v (.int (-i))) st | _ => False) e := by
  rw [ev, ow_bind]
  refine wqc fun x st => ?_
  cases x.get st with
  | v p => cases p <;> exact Iff.rfl
  | _ => exact Iff.rfl
@[simp] theorem v_not {a : E} : (ev C (.not a) st).wq q e ↔ (ev C a st).wq (fun x st => OW (truthy (x.get st)) (fun b => q (.v (.bl (!b))) st)) e := by
  rw [ev, ow_bind]
  exact wqc fun x st => by rw [ow_bind, ow_lift]; rfl
theorem asB {x : ER} {st : ST} {P : Bool → Prop} : (match asBool x st with | some true => P true | some false => P false | none => False) ↔ ∃ b, asBool x st = some b ∧ P b := by
  cases h : asBool x st with
  | none => simp
  | some b => cases b <;> simp
@[simp] theorem v_and {a b : E} : (ev C (.and a b) st).wq q e ↔ (ev C a st).wq (fun x st => OW (asBool x st) (fun r => if r = true then (ev C b st).wq q e else q (.v (.bl false)) st)) e := by
  rw [ev, ow_bind]
  refine wqc fun x st => ?_
  cases asBool x st with
  | none => simp
  | some r => cases r <;> simp
@[simp] theorem v_or {a b : E} : (ev C (.or a b) st).wq q e ↔ (ev C a st).wq (fun x st => OW (asBool x st) (fun r => if r = true then q (.v (.bl true)) st else (ev C b st).wq q e)) e := by
  rw [ev, ow_bind]
  refine wqc fun x st => ?_
  cases asBool x st with
  | none => simp
  | some r => cases r <;> simp
@[simp] theorem v_cmp {op : CmpOp} {a b : E} : (ev C (.cmp op a b) st).wq q e ↔ (ev C a st).wq (fun x st => (ev C b st).wq (fun y st => OW (cmpO op (x.get st) (y.get st)) (fun r => q (.v (.bl r)) st)) e) e := by
  rw [ev, ow_bind]
  exact wqc fun x st => by rw [ow_bind]; exact wqc fun y st => by rw [ow_bind, ow_lift]; rfl
@[simp] theorem v_chain {o1 o2 : CmpOp} {a b d : E} : (ev C (.chain o1 o2 a b d) st).wq q e ↔ (ev C a st).wq (fun x st => (ev C b st).wq (fun y st => OW (cmpO o1 (x.get st) (y.get st)) (fun r => if r = true then (ev C d st).wq (fun z st => OW (cmpO o2 (y.get st) (z.get st)) (fun r => q (.v (.bl r)) st)) e else q (.v (.bl false)) st)) e) e := by
  rw [ev, ow_bind]
  refine wqc fun x st => ?_
  rw [ow_bind]
  refine wqc fun y st => ?_
  rw [ow_bind, ow_lift]
  refine exists_congr fun r => and_congr_right fun _ => ?_
  cases r with
  | false => simp
  | true =>
    simp only [if_true]
    rw [ow_bind]
    exact wqc fun z st => by rw [ow_bind, ow_lift]; rfl
@[simp] theorem v_ifx {t : T} {a b : E} : (ev C (.ifx t a b) st).wq q e ↔ (tst C t st).wq (fun r st => if r = true then (ev C a st).wq q e else (ev C b st).wq q e) e := by
  rw [ev, ow_bind]
  exact wqc fun x st => ow_ite ..
theorem frzP {α : Type} {o : Option (α × ST)} {P : α → ST → Prop} {e : XV → ST → Prop} {β : Type} {f : α → ST → Out β} {q : β → ST → Prop} : (match o with | some (a, st) => f a st | none => Out.bad).wq q e ↔ ∃ a st, o = some (a, st) ∧ (f a st).wq q e := by
  cases o with
  | none => simp
  | some z =>
    obtain ⟨a, s⟩ := z
    exact ⟨fun h => ⟨a, s, rfl, h⟩, fun ⟨_, _, e, h⟩ => by cases e; exact h⟩
@[simp] theorem v_tup {es : EL} : (ev C (.tup es) st).wq q e ↔ (evL C es st).wq (fun xs st => OW (frzL xs st) (fun z => z.1.length ≤ line ∧ q (.v (.tup z.1)) z.2)) e := by
  rw [ev, ow_bind]
  refine wqc fun x st => ?_
  cases frzL x st with
  | none => simp
  | some z =>
    obtain ⟨a, s⟩ := z
    by_cases h : a.length ≤ line <;> simp [h]
@[simp] theorem v_lst {es : EL} : (ev C (.lst es) st).wq q e ↔ (evL C es st).wq (fun xs st => OW (frzL xs st) (fun z => z.1.length ≤ line ∧ q (.own (.lst z.1)) z.2)) e := by
  rw [ev, ow_bind]
  refine wqc fun x st => ?_
  cases frzL x st with
  | none => simp
  | some z =>
    obtain ⟨a, s⟩ := z
    by_cases h : a.length ≤ line <;> simp [h]
@[simp] theorem v_dnew {t : Bool} : (ev C (.dnew t) st).wq q e ↔ q (.own (.dct t [])) st := by rw [ev]; rfl
@[simp] theorem v_idx {a b : E} : (ev C (.idx a b) st).wq q e ↔ (ev C a st).wq (fun x st => (ev C b st).wq (fun y st => OW (ixO (x.get st) (y.get st)) (fun p => q (.v p) st)) e) e := by
  rw [ev, ow_bind]
  exact wqc fun x st => by rw [ow_bind]; exact wqc fun y st => by rw [ow_bind, ow_lift]; rfl
@[simp] theorem v_sl {a : E} {lo hi : OE} : (ev C (.sl a lo hi) st).wq q e ↔ (ev C a st).wq (fun x st => (evO C lo st).wq (fun l st => (evO C hi st).wq (fun h st => OW (slO (x.get st) l h) (fun r => q r st)) e) e) e := by
  rw [ev, ow_bind]
  exact wqc fun x st => by rw [ow_bind]; exact wqc fun y st => by rw [ow_bind]; exact wqc fun y st => ow_lift ..
@[simp] theorem v_call {f : Str} {as : EL} : (ev C (.call f as) st).wq q e ↔ (evL C as st).wq (fun es st => OW (svAll st es) (fun as => (slotsOf es).Nodup ∧ (C.call f as st.g).wq (fun r as' g' => q r.er (back es as' { st with g := g' })) fun x as' g' => e x (back es as' { st with g := g' }))) e := by
  rw [ev, ow_bind]
  exact wqc fun x st => ow_call ..
@[simp] theorem v_callp {f : Str} {ps : List CA} {as ks : EL} : (ev C (.callp f ps as ks) st).wq q e ↔ (evL C as st).wq (fun xs st => (evL C ks st).wq (fun ys st => OW (pickA (xs ++ ys) ps) (fun es => (pickIx ps).Nodup ∧ OW (svAll st es) (fun as => (slotsOf es).Nodup ∧ (C.call f as st.g).wq (fun r as' g' => q r.er (back es as' { st with g := g' })) fun x as' g' => e x (back es as' { st with g := g' })))) e) e := by
  rw [ev, ow_bind]
  refine wqc fun xs st => ?_
  rw [ow_bind]
  refine wqc fun ys st => ?_
  cases pickA (xs ++ ys) ps with
  | none => simp
  | some es => by_cases h : (pickIx ps).Nodup <;> simp [h, OW_is]
@[simp] theorem v_blt {f : BF} {as : EL} : (ev C (.blt f as) st).wq q e ↔ (evL C as st).wq (fun xs st => OW (bltO f (xs.map (ER.get st))) (fun r => q r st)) e := by
  rw [ev, ow_bind]
  exact wqc fun x st => ow_lift ..
@[simp] theorem v_meth {m : MF} {o : E} {as : EL} : (ev C (.meth m o as) st).wq q e ↔ (ev C o st).wq (fun x st => recvOk m (x.get st) = true ∧ (evL C as st).wq (fun xs st => OW (methO m (x.get st) (xs.map (ER.get st))) (fun r => q r st)) e) e := by
  rw [ev, ow_bind]
  refine wqc fun x st => ?_
  cases recvOk m (x.get st) with
  | false => simp
  | true =>
    simp only [if_true, true_and]
    rw [ow_bind]
    exact wqc fun x st => ow_lift ..
@[simp] theorem v_mut {m : MM} {i : Nat} {as : EL} : (ev C (.mut m i as) st).wq q e ↔ ownsL st i = true ∧ (evL C as st).wq (fun xs st => OW (frzL xs st) (fun z => match envAt z.2 i with | some (.own (.lst l)) => OW (mutO m l z.1) (fun r => q (.v r.1) (z.2.put i (some (.own (.lst r.2))))) | _ => False)) e := by
  rw [ev]
  cases ownsL st i with
  | false => simp
  | true =>
    simp only [if_true, true_and]
    rw [ow_bind]
    refine wqc fun x st => ?_
    cases frzL x st with
    | none => simp
    | some z =>
      obtain ⟨ps, s⟩ := z
      rw [OW_some]
      dsimp only
      cases envAt s i with
      | none => exact Iff.rfl
      | some v =>
        cases v with
        | v p => exact Iff.rfl
        | own d =>
          cases d with
          | dct t k => exact Iff.rfl
          | lst l =>
            dsimp only
            cases mutO m l ps with
            | none => simp
            | some r => simp
abbrev LF (C : Ctx) (tg : Tg) (ws : List Nat) (cond : T) (elt : E) : PV → ST → Out (List PV) := lcF tg ws (fun st => tst C cond st) (fun st => frzO (ev C elt st) fun p st => .ok [p] st)
@[simp] theorem v_lc {ws : List Nat} {tg : Tg} {it : IT} {cond : T} {elt : E} : (ev C (.lc ws tg it cond elt) st).wq q e ↔ (evI C it st).wq (fun xs st => (mapO (LF C tg ws cond elt) xs st).wq (fun ps st => ps.length ≤ line ∧ q (.own (.lst ps)) st) fun _ _ => False) e := by
  rw [ev, ow_bind]
  refine wqc fun x st => ?_
  rw [ow_bind, ow_no]
  refine wqc fun ps st => ?_
  by_cases h : ps.length ≤ line <;> simp [h]
@[simp] theorem v_lco {ws : List Nat} {tg : Tg} {i : Nat} {cond : T} {elt : E} : (ev C (.lco ws tg i cond elt) st).wq q e ↔ (match envAt st i with | some (.own (.lst xs)) => (mapO (LF C tg ws cond elt) xs (st.put i none)).wq (fun ps st => ps.length ≤ line ∧ q (.own (.lst ps)) (st.put i (some (.own (.lst xs))))) (fun _ _ => False) | _ => False) := by
  rw [ev]
  cases envAt st i with
  | none => simp
  | some v => cases v with
    | v p => simp
    | own d => cases d with
      | dct t k => simp
      | lst l =>
        dsimp only
        rw [ow_bind, ow_no]
        refine wqc fun ps st => ?_
        by_cases h : ps.length ≤ line <;> simp [h]
abbrev LF2 (C : Ctx) (tg : Tg) (ws ws1 : List Nat) (cond : T) (tg1 : Tg) (it1 : IT) (cond1 : T) (elt : E) : PV → ST → Out (List PV) := lcF tg ws (fun st => tst C cond st) (fun st => (evI C it1 st).bind fun ys st => mapO (LF C tg1 ws1 cond1 elt) ys st)
@[simp] theorem v_lc2 {ws ws1 : List Nat} {tg tg1 : Tg} {it it1 : IT} {cond cond1 : T} {elt : E} : (ev C (.lc2 ws ws1 tg it cond tg1 it1 cond1 elt) st).wq q e ↔ (evI C it st).wq (fun xs st => (mapO (LF2 C tg ws ws1 cond tg1 it1 cond1 elt) xs st).wq (fun ps st => ps.length ≤ line ∧ q (.own (.lst ps)) st) fun _ _ => False) e := by
  rw [ev, ow_bind]
  refine wqc fun x st => ?_
  rw [ow_bind, ow_no]
  refine wqc fun ps st => ?_
  by_cases h : ps.length ≤ line <;> simp [h]
abbrev DF (C : Ctx) (tg : Tg) (ws : List Nat) (k v : E) : PV → List (PV × PV) → ST → Out (List (PV × PV)) := fun x kvs st => match putTo tg x (wipeS st ws) with
  | some st => frzO (ev C k st) fun p st => frzO (ev C v st) fun q st => (lift (dcPut false kvs p q) st).bind fun kvs st => .ok kvs (wipeS st ws)
  | none => .bad
@[simp] theorem v_dc {ws : List Nat} {tg : Tg} {it : IT} {k v : E} : (ev C (.dc ws tg it k v) st).wq q e ↔ (evI C it st).wq (fun xs st => (foldO (DF C tg ws k v) xs [] st).wq (fun ps st => q (.own (.dct false ps)) st) fun _ _ => False) e := by
  rw [ev, ow_bind]
  refine wqc fun x st => ?_
  rw [ow_bind, ow_no]
  rfl
@[simp] theorem v_isi {a : E} {c : CT} : (ev C (.isi a c) st).wq q e ↔ (ev C a st).wq (fun x st => OW (isiO (x.get st) c) (fun b => q (.v (.bl b)) st)) e := by
  rw [ev, ow_bind]
  exact wqc fun x st => by rw [ow_bind, ow_lift]; rfl
end
section
variable {C : Ctx} {st : ST} {e : XV → ST → Prop}
@[simp] theorem v_ono {q : Option Int → ST → Prop} : (evO C .no st).wq q e ↔ q none st := by rw [evO]; rfl
@[simp] theorem v_oyes {a : E} {q : Option Int → ST → Prop} : (evO C (.yes a) st).wq q e ↔ (ev C a st).wq (fun x st => match x.get st with | .v (.int i) => q (some i) st | _ => False) e := by
  rw [evO, ow_bind]
  refine wqc fun x st => ?_
  cases x.get st with
  | v p => cases p <;> exact Iff.rfl
  | _ => exact Iff.rfl
@[simp] theorem v_nil {q : List ER → ST → Prop} : (evL C .nil st).wq q e ↔ q [] st := by rw [evL]; rfl
@[simp] theorem v_cons {a : E} {r : EL} {q : List ER → ST → Prop} : (evL C (.cons a r) st).wq q e ↔ (ev C a st).wq (fun x st => (evL C r st).wq (fun xs st => q (x :: xs) st) e) e := by
  rw [evL, ow_bind]
  exact wqc fun x st => by rw [ow_bind]; rfl
theorem frzW {x : ER} {st : ST} {P : PV → ST → Prop} : (match x.frz st with | some (p, st') => P p st' | none => False) ↔ ∃ z, x.frz st = some z ∧ P z.1 z.2 := by
  cases x.frz st with
  | none => simp
  | some z => obtain ⟨a, s⟩ := z; simp
@[simp] theorem v_frz {α : Type} {o : Out ER} {f : PV → ST → Out α} {q : α → ST → Prop} : (frzO o f).wq q e ↔ o.wq (fun r st => OW (r.frz st) (fun z => (f z.1 z.2).wq q e)) e := by
  rw [ow_frz]
  refine wqc fun x st => ?_
  exact frzW (P := fun p st => (f p st).wq q e)
@[simp] theorem v_seq {a : E} {q : List PV → ST → Prop} : (evI C (.seq a) st).wq q e ↔ (ev C a st).wq (fun x st => OW (x.frz st) (fun z => OW (itemsOf z.1) (fun l => q l z.2))) e := by
  rw [evI, v_frz]
  exact wqc fun x st => exists_congr fun z => and_congr_right fun _ => ow_lift ..
@[simp] theorem v_rng1 {a : E} {q : List PV → ST → Prop} : (evI C (.rng1 a) st).wq q e ↔ (ev C a st).wq (fun x st => OW (rngO (x.get st)) (fun l => q l st)) e := by
  rw [evI, ow_bind]
  exact wqc fun x st => ow_lift ..
@[simp] theorem v_rng2 {a b : E} {q : List PV → ST → Prop} : (evI C (.rng2 a b) st).wq q e ↔ (ev C a st).wq (fun x st => (ev C b st).wq (fun y st => OW (rngO2 (x.get st) (y.get st)) (fun l => q l st)) e) e := by
  rw [evI, ow_bind]
  exact wqc fun x st => by rw [ow_bind]; exact wqc fun y st => ow_lift ..
@[simp] theorem v_rng3 {a b c : E} {q : List PV → ST → Prop} : (evI C (.rng3 a b c) st).wq q e ↔ (ev C a st).wq (fun x st => (ev C b st).wq (fun y st => (ev C c st).wq (fun z st => OW (rngO3 (x.get st) (y.get st) (z.get st)) (fun l => q l st)) e) e) e := by
  rw [evI, ow_bind]
  exact wqc fun x st => by rw [ow_bind]; exact wqc fun y st => by rw [ow_bind]; exact wqc fun y st => ow_lift ..
@[simp] theorem v_rev1 {a : E} {q : List PV → ST → Prop} : (evI C (.rev1 a) st).wq q e ↔ (ev C a st).wq (fun x st => OW (revO (x.get st)) (fun l => q l st)) e := by
  rw [evI, ow_bind]
  exact wqc fun x st => ow_lift ..
variable {q : Bool → ST → Prop}
@[simp] theorem v_tt : (tst C .tt st).wq q e ↔ q true st := by rw [tst]; rfl
@[simp] theorem v_tand {a b : T} : (tst C (.and a b) st).wq q e ↔ (tst C a st).wq (fun r st => if r = true then (tst C b st).wq q e else q false st) e := by
  rw [tst, ow_bind]
  exact wqc fun x st => by rw [ow_ite]; rfl
@[simp] theorem v_tor {a b : T} : (tst C (.or a b) st).wq q e ↔ (tst C a st).wq (fun r st => if r = true then q true st else (tst C b st).wq q e) e := by
  rw [tst, ow_bind]
  exact wqc fun x st => by rw [ow_ite]; rfl
@[simp] theorem v_tnot {a : T} : (tst C (.not a) st).wq q e ↔ (tst C a st).wq (fun r st => q (!r) st) e := by
  rw [tst, ow_bind]
  exact wqc fun x st => Iff.rfl
@[simp] theorem v_te {a : E} : (tst C (.e a) st).wq q e ↔ (ev C a st).wq (fun x st => OW (truthy (x.get st)) (fun b => q b st)) e := by
  rw [tst, ow_bind]
  exact wqc fun x st => ow_lift ..
end
/-! statements -/
theorem nxP {o : Option ST} {p : Post} : (nxO o).wq p ↔ ∃ st, o = some st ∧ p.nx st := by
  cases o <;> simp
@[simp] theorem v_nxs {o : Option ST} {f : ST → SO} {p : Post} : ((nxO o).seq f).wq p ↔ OW (o) (fun st => (f st).wq p) := by
  cases o <;> simp
section
variable {C : Ctx} {st : ST} {p : Post}
@[simp] theorem x_asgv {i : Nat} {a : E} : (ex C (.asg (.v i) a) st).wq p ↔ (ev C a st).wq (fun x st => OW (store C i x st) (fun st' => p.nx st')) p.xc := by
  rw [ex, sw_so]
  exact wqc fun x st => nxP
@[simp] theorem x_asgt {is : List Nat} {a : E} : (ex C (.asg (.t is) a) st).wq p ↔ (ev C a st).wq (fun x st => OW (x.frz st) (fun z => OW (stTg C (.t is) z.1 z.2) (fun st' => p.nx st'))) p.xc := by
  rw [ex, sw_so, v_frz]
  exact wqc fun x st => exists_congr fun z => and_congr_right fun _ => ow_lift ..
@[simp] theorem x_par {is : List Nat} {es : EL} : (ex C (.par is es) st).wq p ↔ (evL C es st).wq (fun xs st => OW (frzSl xs st) (fun z => OW (storeAll C is z.1 z.2) (fun st' => p.nx st'))) p.xc := by
  rw [ex, sw_so]
  refine wqc fun x st => ?_
  cases frzSl x st with
  | none => simp
  | some z =>
    obtain ⟨a, s⟩ := z
    exact nxP.trans ⟨fun ⟨t, h⟩ => ⟨(a, s), rfl, t, h⟩, fun ⟨_, e, t, h⟩ => by cases e; exact ⟨t, h⟩⟩
@[simp] theorem x_aug {i : Nat} {op : Operator} {a : E} : (ex C (.aug i op a) st).wq p ↔ (match envAt st i with | some (.v (.int n)) => (ev C a st).wq (fun x st => C.ro i = false ∧ op = .Add ∧ (match x.get st with | .v (.int m) => p.nx (st.put i (some (.v (.int (n + m))))) | _ => False)) p.xc | _ => False) := by
  rw [ex]
  cases h : envAt st i with
  | none => exact Iff.rfl
  | some s =>
    cases s with
    | own d => exact Iff.rfl
    | v pv =>
      cases pv with
      | int n =>
        dsimp only
        rw [sw_so]
        refine wqc fun x st => ?_
        cases C.ro i with
        | true => simp
        | false =>
          simp only [Bool.false_eq_true, if_false, true_and]
          cases op <;> (generalize x.get st = d; cases d <;> first
            | (simp; done)
            | (rename_i l; cases l <;> simp))
      | _ => exact Iff.rfl
@[simp] theorem x_sub {i : Nat} {k a : E} : (ex C (.sub i k a) st).wq p ↔ ownsD st i = true ∧ (ev C a st).wq (fun x st => OW (x.frz st) (fun z => (ev C k z.2).wq (fun y st => OW (y.frz st) (fun w => OW (subO C i w.1 z.1 w.2) (fun st' => p.nx st'))) p.xc)) p.xc := by
  rw [ex]
  cases ownsD st i with
  | false => simp
  | true =>
    simp only [if_true, true_and]
    rw [sw_so, v_frz]
    exact wqc fun x st => exists_congr fun z => and_congr_right fun _ => by dsimp only; rw [v_frz]; exact wqc fun x st => exists_congr fun z => and_congr_right fun _ => ow_lift ..
@[simp] theorem x_ex {a : E} : (ex C (.ex a) st).wq p ↔ (ev C a st).wq (fun _ st => p.nx st) p.xc := by
  rw [ex, sw_so]
  exact wqc fun x st => Iff.rfl
@[simp] theorem x_ife {t : T} {a b : SL} : (ex C (.ife t a b) st).wq p ↔ (tst C t st).wq (fun r st => if r = true then (exs C a st).wq p else (exs C b st).wq p) p.xc := by
  rw [ex, sw_so]
  exact wqc fun x st => sw_ite ..
abbrev FF (C : Ctx) (t : Tg) (b : SL) : PV → ST → SO := fun x st => (nxO (stTg C t x st)).seq fun st => exs C b st
@[simp] theorem x_for {t : Tg} {it : IT} {b : SL} : (ex C (.for_ t it b) st).wq p ↔ (evI C it st).wq (fun xs st => (forO (FF C t b) xs st).wq p) p.xc := by
  rw [ex, sw_so]
@[simp] theorem x_whl {t : T} {b : SL} : (ex C (.whl t b) st).wq p ↔ (whlO (fun st => tst C t st) (fun st => exs C b st) C.fuel st).wq p := by rw [ex]
@[simp] theorem x_ret {a : E} : (ex C (.ret a) st).wq p ↔ (ev C a st).wq (fun x st => p.rt x st) p.xc := by
  rw [ex, sw_so]
  exact wqc fun x st => Iff.rfl
@[simp] theorem x_retn : (ex C .retn st).wq p ↔ p.rt (.v .non) st := by rw [ex]; rfl
@[simp] theorem x_brk : (ex C .brk st).wq p ↔ p.bk st := by rw [ex]; rfl
@[simp] theorem x_cnt : (ex C .cnt st).wq p ↔ p.ct st := by rw [ex]; rfl
@[simp] theorem x_pass : (ex C .pass st).wq p ↔ p.nx st := by rw [ex]; rfl
@[simp] theorem x_raise {c m : Str} : (ex C (.raise c m) st).wq p ↔ p.xc ⟨c, none⟩ st := by rw [ex]; rfl
@[simp] theorem xs_nil : (exs C .nil st).wq p ↔ p.nx st := by rw [exs]; rfl
@[simp] theorem xs_cons {s : S} {r : SL} : (exs C (.cons s r) st).wq p ↔ (ex C s st).wq { p with nx := fun st => (exs C r st).wq p } := by rw [exs, sw_seq]
end
/-! ### loops, comprehensions -/
theorem lc_each {α : Type} {l : List α} {enc : α → PV} {h : α → List PV} {F : PV → ST → Out (List PV)} {st : ST} {q : List PV → ST → Prop} {e : XV → ST → Prop} (step : ∀ a ∈ l, (F (enc a) st).wq (fun r s => r = h a ∧ s = st) e) (hq : q (l.flatMap h) st) : (mapO F (l.map enc) st).wq q e := by
  have key : ∀ l : List α, (∀ a ∈ l, (F (enc a) st).wq (fun r s => r = h a ∧ s = st) e) → (mapO F (l.map enc) st).wq (fun r s => r = l.flatMap h ∧ s = st) e := by
    intro l
    induction l with
    | nil => intro _; rw [List.map_nil, mapO]; exact ⟨rfl, rfl⟩
    | cons a r ih =>
      intro hs
      rw [List.map_cons, mapO, ow_bind]
      refine wq_mono (hs a (List.mem_cons_self ..)) ?_ fun _ _ h => h
      rintro _ _ ⟨rfl, rfl⟩
      rw [ow_bind]
      refine wq_mono (ih fun b hb => hs b (List.mem_cons_of_mem _ hb)) ?_ fun _ _ h => h
      rintro _ _ ⟨rfl, rfl⟩
      exact ⟨by rw [List.flatMap_cons], rfl⟩
  exact wq_mono (key l step) (by rintro _ _ ⟨rfl, rfl⟩; exact hq) fun _ _ h => h
/-- [f x for x in l] -/
theorem lc_map {α : Type} {l : List α} {enc : α → PV} (f : α → PV) {F : PV → ST → Out (List PV)} {st : ST} {q : List PV → ST → Prop} {e : XV → ST → Prop} (step : ∀ a ∈ l, (F (enc a) st).wq (fun r s => r = [f a] ∧ s = st) e) (hq : q (l.map f) st) : (mapO F (l.map enc) st).wq q e :=
  lc_each (h := fun a => [f a]) step (by
    have : l.flatMap (fun a => [f a]) = l.map f := by
      clear step hq
      induction l with
      | nil => rfl
      | cons a r ih => rw [List.flatMap_cons, ih]; rfl
    rw [this]
    exact hq)
/-- [f x for x in l if c x] -/
theorem lc_filter {α : Type} {l : List α} {enc : α → PV} (c : α → Bool) (f : α → PV) {F : PV → ST → Out (List PV)} {st : ST} {q : List PV → ST → Prop} {e : XV → ST → Prop} (step : ∀ a ∈ l, (F (enc a) st).wq (fun r s => r = (if c a = true then [f a] else []) ∧ s = st) e) (hq : q ((l.filter c).map f) st) : (mapO F (l.map enc) st).wq q e := by
  refine lc_each (h := fun a => if c a = true then [f a] else []) step ?_
  have : (l.flatMap fun a => if c a = true then [f a] else []) = (l.filter c).map f := by
    clear step hq
    induction l with
    | nil => rfl
    | cons a r ih =>
      rw [List.flatMap_cons, ih, List.filter_cons]
      cases c a <;> simp
  rw [this]
  exact hq

theorem wipe_twice (e : Env) : ∀ ws : List Nat, wipeE (wipeE e ws) ws = wipeE e ws := fun ws => by
  have len : ∀ (ws : List Nat) (e : Env), (wipeE e ws).length = e.length := fun ws => by
    induction ws with
    | nil => intro e; rfl
    | cons i r ih => intro e; rw [wipeE, List.length_set, ih]
  have at_ : ∀ (ws : List Nat) (e : Env) (j : Nat), (wipeE e ws)[j]? = if j ∈ ws then (if j < e.length then some none else none) else e[j]? := fun ws => by
    induction ws with
    | nil => intro e j; simp [wipeE]
    | cons i r ih =>
      intro e j
      rw [wipeE, List.getElem?_set, len, ih]
      by_cases h : i = j
      · subst h
        simp
      · have : j ≠ i := fun z => h z.symm
        simp [h, this]
  refine List.ext_getElem? fun j => ?_
  rw [at_, at_, len]
  split <;> rfl
theorem lcF_wiped {tg : Tg} {ws : List Nat} {t : ST → Out Bool} {k : ST → Out (List PV)} {x : PV} {st : ST} : lcF tg ws t k x st = lcF tg ws t k x (wipeS st ws) := by
  have : wipeS (wipeS st ws) ws = wipeS st ws := by
    unfold wipeS
    rw [wipe_twice]
  unfold lcF
  rw [this]
/-- a comprehension whose names have values ahead of it -/
theorem lc_wipe {α : Type} {l : List α} {enc : α → PV} {h : α → List PV} {tg : Tg} {ws : List Nat} {t : ST → Out Bool} {k : ST → Out (List PV)} {st : ST} {q : List PV → ST → Prop} {e : XV → ST → Prop} (step : ∀ a ∈ l, (lcF tg ws t k (enc a) (wipeS st ws)).wq (fun r s => r = h a ∧ s = wipeS st ws) e) (hq : q (l.flatMap h) (wipeS st ws)) (h0 : l = [] → q [] st) : (mapO (lcF tg ws t k) (l.map enc) st).wq q e := by
  cases l with
  | nil => exact h0 rfl
  | cons a r =>
    have e1 : mapO (lcF tg ws t k) ((a :: r).map enc) st = mapO (lcF tg ws t k) ((a :: r).map enc) (wipeS st ws) := by
      rw [List.map_cons, mapO, mapO, ← lcF_wiped]
    rw [e1]
    exact lc_each step hq
theorem flat_sing {α β : Type} (f : α → β) (l : List α) : (l.flatMap fun a => [f a]) = l.map f := by
  induction l with
  | nil => rfl
  | cons a r ih => rw [List.flatMap_cons, ih]; rfl
/-- a comprehension, with a state -/
theorem lc_inv {α : Type} {l : List α} {enc : α → PV} {F : PV → ST → Out (List PV)} {st : ST} {q : List PV → ST → Prop} {e : XV → ST → Prop} (P : List α → List PV → ST → Prop) (step : ∀ pre a post acc st, l = pre ++ a :: post → P pre acc st → (F (enc a) st).wq (fun r s => P (pre ++ [a]) (acc ++ r) s) e) (h0 : P [] [] st) (hq : ∀ r s, P l r s → q r s) : (mapO F (l.map enc) st).wq q e := by
  have key : ∀ (r pre : List α) (acc : List PV) (st : ST), l = pre ++ r → P pre acc st → (mapO F (r.map enc) st).wq (fun z s => P l (acc ++ z) s) e := by
    intro r
    induction r with
    | nil =>
      intro pre acc st e hp
      rw [List.append_nil] at e
      rw [List.map_nil, mapO]
      show P l (acc ++ []) st
      rw [List.append_nil, e]
      exact hp
    | cons a r ih =>
      intro pre acc st e hp
      rw [List.map_cons, mapO, ow_bind]
      refine wq_mono (step pre a r acc st e hp) (fun z s hz => ?_) fun _ _ h => h
      rw [ow_bind]
      refine wq_mono (ih (pre ++ [a]) (acc ++ z) s (by rw [e]; simp) hz) (fun w s hw => ?_) fun _ _ h => h
      rw [List.append_assoc] at hw
      exact hw
  exact wq_mono (key l [] [] st rfl h0) (fun r s h => hq r s (by simpa using h)) fun _ _ h => h
/-- {..: .. for x in l} -/
theorem fold_map {α : Type} {l : List α} {enc : α → PV} {F : PV → List (PV × PV) → ST → Out (List (PV × PV))} {d0 : List (PV × PV)} {st : ST} {q : List (PV × PV) → ST → Prop} {e : XV → ST → Prop} (D : List α → List (PV × PV)) (h0 : D [] = d0) (step : ∀ pre a post, l = pre ++ a :: post → (F (enc a) (D pre) st).wq (fun d s => d = D (pre ++ [a]) ∧ s = st) e) (hq : q (D l) st) : (foldO F (l.map enc) d0 st).wq q e := by
  have key : ∀ (r pre : List α), l = pre ++ r → (foldO F (r.map enc) (D pre) st).wq (fun d s => d = D l ∧ s = st) e := by
    intro r
    induction r with
    | nil =>
      intro pre e
      rw [List.append_nil] at e
      rw [List.map_nil, foldO, e]
      exact ⟨rfl, rfl⟩
    | cons a r ih =>
      intro pre e
      rw [List.map_cons, foldO, ow_bind]
      refine wq_mono (step pre a r e) ?_ fun _ _ h => h
      rintro _ _ ⟨rfl, rfl⟩
      exact ih (pre ++ [a]) (by rw [e]; simp)
  rw [← h0]
  exact wq_mono (key l [] rfl) (by rintro _ _ ⟨rfl, rfl⟩; exact hq) fun _ _ h => h
theorem dcF_ok {C : Ctx} {tg : Tg} {ws : List Nat} {k v : E} {x : PV} {kvs : List (PV × PV)} {st st' : ST} {q : List (PV × PV) → ST → Prop} {e : XV → ST → Prop} (hp : putTo tg x (wipeS st ws) = some st') (h : (frzO (ev C k st') fun p st => frzO (ev C v st) fun q st => (lift (dcPut false kvs p q) st).bind fun kvs st => .ok kvs (wipeS st ws)).wq q e) : (DF C tg ws k v x kvs st).wq q e := by
  unfold DF
  rw [hp]
  exact h
/-- for x in l -/
theorem for_map {α : Type} {l : List α} {enc : α → PV} {F : PV → ST → SO} {p : Post} {st : ST} (P : List α → ST → Prop) (step : ∀ pre a post st, l = pre ++ a :: post → P pre st → (F (enc a) st).wq { p with nx := P (pre ++ [a]), ct := P (pre ++ [a]), bk := p.nx }) (h0 : P [] st) (hq : ∀ st, P l st → p.nx st) : (forO F (l.map enc) st).wq p := by
  have key : ∀ (r pre : List α) (st : ST), l = pre ++ r → P pre st → (forO F (r.map enc) st).wq p := by
    intro r
    induction r with
    | nil =>
      intro pre st e hp
      rw [List.append_nil] at e
      subst e
      rw [List.map_nil, forO]
      exact hq st hp
    | cons a r ih =>
      intro pre st e hp
      have s := step pre a r st e hp
      rw [List.map_cons, forO, sw_turn]
      have e' : l = (pre ++ [a]) ++ r := by rw [e]; simp
      revert s
      cases F (enc a) st with
      | nx st' => exact fun s => ih _ st' e' s
      | ct st' => exact fun s => ih _ st' e' s
      | bk st' => exact id
      | ret r st' => exact id
      | exc x st' => exact id
      | bad => exact id
  exact key l [] st rfl h0
/-- while: P with a number that falls -/
theorem whl_wp {c : ST → Out Bool} {b : ST → SO} {p : Post} (P : Nat → ST → Prop) (step : ∀ m st, P m st → (c st).wq (fun r st' => if r = true then (b st').wq { p with nx := fun s => ∃ m', m' < m ∧ P m' s, ct := fun s => ∃ m', m' < m ∧ P m' s, bk := p.nx } else p.nx st') p.xc) {n m : Nat} {st : ST} (h0 : P m st) (hm : m < n) : (whlO c b n st).wq p := by
  have key : ∀ n m st, P m st → m < n → (whlO c b n st).wq p := by
    intro n
    induction n with
    | zero => intro m st _ h; omega
    | succ n ih =>
      intro m st hp hm
      have s := step m st hp
      rw [whlO, sw_so]
      refine wq_mono s (fun r st' h => ?_) fun _ _ h => h
      cases r with
      | false => exact h
      | true =>
        simp only [if_true] at h ⊢
        rw [sw_turn]
        revert h
        cases b st' with
        | nx s => exact fun ⟨m', h1, h2⟩ => ih m' s h2 (by omega)
        | ct s => exact fun ⟨m', h1, h2⟩ => ih m' s h2 (by omega)
        | bk s => exact id
        | ret r s => exact id
        | exc x s => exact id
        | bad => exact id
  exact key n m st h0 hm
/-! ### slots -/
abbrev Vv (p : PV) : Option SV := some (.v p)
abbrev Vo (l : List PV) : Option SV := some (.own (.lst l))
@[simp] theorem envAt_0 {a : Option SV} {l : Env} {g : List GI} : envAt ⟨a :: l, g⟩ 0 = a := by unfold envAt; cases a <;> rfl
@[simp] theorem envAt_S {a : Option SV} {l : Env} {g : List GI} {n : Nat} : envAt ⟨a :: l, g⟩ (n + 1) = envAt ⟨l, g⟩ n := rfl
@[simp] theorem put_is {l : Env} {g : List GI} {n : Nat} {a : Option SV} : ST.put ⟨l, g⟩ n a = ⟨l.set n a, g⟩ := rfl
@[simp] theorem wipe_is {l : Env} {g : List GI} {ws : List Nat} : wipeS ⟨l, g⟩ ws = ⟨wipeE l ws, g⟩ := rfl
@[simp] theorem wipe_n {l : Env} : wipeE l [] = l := rfl
@[simp] theorem wipe_c {l : Env} {i : Nat} {r : List Nat} : wipeE l (i :: r) = (wipeE l r).set i none := rfl
@[simp] theorem store_v {C : Ctx} {i : Nat} {p : PV} {st : ST} : store C i (.v p) st = if C.ro i then none else some (st.put i (some (.v p))) := rfl
@[simp] theorem store_o {C : Ctx} {i : Nat} {d : LD} {st : ST} : store C i (.own d) st = if C.ro i then none else some (st.put i (some (.own d))) := rfl
theorem store_s {C : Ctx} {i j : Nat} {st : ST} {p : PV} {st' : ST} (h : ER.frz st (.slot j) = some (p, st')) : store C i (.slot j) st = if C.ro i then none else some (st'.put i (some (.v p))) := by
  unfold store
  split
  · rfl
  · dsimp only; rw [h]
@[simp] theorem ro_is {c : Str → List SV → List GI → COut} {np : Nat} {re : List Nat} {f i : Nat} : Ctx.ro ⟨c, np, re, f⟩ i = (decide (i < np) && !re.contains i) := rfl
@[simp] theorem get_v {st : ST} {p : PV} : ER.get st (.v p) = .v p := rfl
@[simp] theorem get_o {st : ST} {d : LD} : ER.get st (.own d) = .d d := rfl
@[simp] theorem get_s {st : ST} {i : Nat} : ER.get st (.slot i) = match envAt st i with | some (.v p) => .v p | some (.own d) => .d d | none => .bad := rfl
@[simp] theorem frz_v {st : ST} {p : PV} : ER.frz st (.v p) = some (p, st) := rfl
@[simp] theorem frz_o {st : ST} {xs : List PV} : ER.frz st (.own (.lst xs)) = some (.lst xs, st) := rfl
@[simp] theorem frz_s {st : ST} {i : Nat} : ER.frz st (.slot i) = match envAt st i with | some (.v p) => some (p, st) | some (.own (.lst xs)) => some (.lst xs, st.put i (some (.v (.lst xs)))) | _ => none := rfl
@[simp] theorem frzL_n {st : ST} : frzL [] st = some ([], st) := rfl
@[simp] theorem frzL_v {p : PV} {r : List ER} {st : ST} : frzL (.v p :: r) st = (frzL r st).map fun z => (p :: z.1, z.2) := by rw [frzL]; simp; cases frzL r st <;> rfl
@[simp] theorem frzL_o {xs : List PV} {r : List ER} {st : ST} : frzL (.own (.lst xs) :: r) st = (frzL r st).map fun z => (.lst xs :: z.1, z.2) := by rw [frzL]; simp; cases frzL r st <;> rfl
theorem frzL_s {i : Nat} {r : List ER} {st st' : ST} {p : PV} (h : ER.frz st (.slot i) = some (p, st')) : frzL (.slot i :: r) st = (frzL r st').map fun z => (p :: z.1, z.2) := by rw [frzL, h]; dsimp only; cases frzL r st' <;> rfl
@[simp] theorem frzSl_n {st : ST} : frzSl [] st = some ([], st) := rfl
@[simp] theorem frzSl_v {p : PV} {r : List ER} {st : ST} : frzSl (.v p :: r) st = (frzSl r st).map fun z => (.v p :: z.1, z.2) := by
  rw [frzSl]
  · cases frzSl r st <;> rfl
  · intro i h; cases h
@[simp] theorem frzSl_o {d : LD} {r : List ER} {st : ST} : frzSl (.own d :: r) st = (frzSl r st).map fun z => (.own d :: z.1, z.2) := by
  rw [frzSl]
  · cases frzSl r st <;> rfl
  · intro i h; cases h
@[simp] theorem storeAll_n {C : Ctx} {st : ST} : storeAll C [] [] st = some st := rfl
@[simp] theorem storeAll_c {C : Ctx} {i : Nat} {is : List Nat} {e : ER} {es : List ER} {st : ST} : storeAll C (i :: is) (e :: es) st = (store C i e st).bind fun st => storeAll C is es st := by rw [storeAll]; cases store C i e st <;> rfl
@[simp] theorem sv_v {st : ST} {p : PV} : ER.sv st (.v p) = some (.v p) := rfl
@[simp] theorem sv_o {st : ST} {d : LD} : ER.sv st (.own d) = some (.own d) := rfl
@[simp] theorem sv_s {st : ST} {i : Nat} : ER.sv st (.slot i) = envAt st i := rfl
@[simp] theorem svAll_n {st : ST} : svAll st [] = some [] := rfl
@[simp] theorem svAll_c {st : ST} {e : ER} {r : List ER} : svAll st (e :: r) = (e.sv st).bind fun a => (svAll st r).map (a :: ·) := by
  rw [svAll]
  cases e.sv st with
  | none => rfl
  | some a => cases svAll st r <;> rfl
@[simp] theorem slots_n : slotsOf [] = [] := rfl
@[simp] theorem slots_cs {i : Nat} {r : List ER} : slotsOf (.slot i :: r) = i :: slotsOf r := rfl
@[simp] theorem slots_cv {p : PV} {r : List ER} : slotsOf (.v p :: r) = slotsOf r := slots_v
@[simp] theorem slots_co {d : LD} {r : List ER} : slotsOf (.own d :: r) = slotsOf r := slots_o
@[simp] theorem back_n {as : List SV} {st : ST} : back [] as st = st := by cases as <;> rfl
@[simp] theorem back_cs {i : Nat} {r : List ER} {a : SV} {as : List SV} {st : ST} : back (.slot i :: r) (a :: as) st = back r as (st.put i (some a)) := rfl
@[simp] theorem back_cv {p : PV} {r : List ER} {a : SV} {as : List SV} {st : ST} : back (.v p :: r) (a :: as) st = back r as st := back_cons_v
@[simp] theorem back_co {d : LD} {r : List ER} {a : SV} {as : List SV} {st : ST} : back (.own d :: r) (a :: as) st = back r as st := back_cons_o
@[simp] theorem er_v {p : PV} : SV.er (.v p) = .v p := rfl
@[simp] theorem er_o {d : LD} : SV.er (.own d) = .own d := rfl
@[simp] theorem asBool_v {b : Bool} {st : ST} : asBool (.v (.bl b)) st = some b := rfl
@[simp] theorem ownsL_is {st : ST} {i : Nat} : ownsL st i = match envAt st i with | some (.own (.lst _)) => true | _ => false := rfl
@[simp] theorem ownsD_is {st : ST} {i : Nat} : ownsD st i = match envAt st i with | some (.own _) => true | _ => false := rfl
@[simp] theorem putTo_v {i : Nat} {x : PV} {st : ST} : putTo (.v i) x st = some (st.put i (some (.v x))) := rfl
@[simp] theorem putTo_t {is : List Nat} {xs : List PV} {st : ST} : putTo (.t is) (.tup xs) st = putAll st is xs := rfl
@[simp] theorem stTg_v {C : Ctx} {i : Nat} {x : PV} {st : ST} : stTg C (.v i) x st = if C.ro i then none else some (st.put i (some (.v x))) := rfl
@[simp] theorem stTg_t {C : Ctx} {is : List Nat} {xs : List PV} {st : ST} : stTg C (.t is) (.tup xs) st = if roAny C is then none else putAll st is xs := rfl
@[simp] theorem putAll_n {st : ST} : putAll st [] [] = some st := rfl
@[simp] theorem putAll_c {st : ST} {i : Nat} {is : List Nat} {x : PV} {xs : List PV} : putAll st (i :: is) (x :: xs) = putAll (st.put i (some (.v x))) is xs := rfl
@[simp] theorem roAny_is {C : Ctx} {is : List Nat} : roAny C is = is.any C.ro := rfl
@[simp] theorem pickA_n {es : List ER} : pickA es [] = some [] := rfl
@[simp] theorem pickA_a {es : List ER} {i : Nat} {r : List CA} : pickA es (.a i :: r) = (es[i]?).bind fun e => (pickA es r).map (e :: ·) := by
  rw [pickA]
  cases es[i]? with
  | none => rfl
  | some a => cases pickA es r <;> rfl
@[simp] theorem pickA_d {es : List ER} {p : PV} {r : List CA} : pickA es (.d p :: r) = (pickA es r).map (.v p :: ·) := rfl
@[simp] theorem pickIx_n : pickIx [] = [] := rfl
@[simp] theorem pickIx_a {i : Nat} {r : List CA} : pickIx (.a i :: r) = i :: pickIx r := rfl
@[simp] theorem pickIx_d {p : PV} {r : List CA} : pickIx (.d p :: r) = pickIx r := rfl
/-! ### calls -/
def ret2 (np : Nat) (re : List Nat) (as : List SV) (r : ER) (st : ST) : COut := retO ⟨0, np, re, .nil⟩ as r st
theorem ret2_is (fn : Fn) (as : List SV) (r : ER) (st : ST) : retO fn as r st = ret2 fn.np fn.re as r st := rfl
@[simp] theorem fin_n {re : List Nat} {e : Env} {i : Nat} : finals re e i [] = some [] := rfl
@[simp] theorem fin_c {re : List Nat} {e : Env} {i : Nat} {a : SV} {r : List SV} : finals re e i (a :: r) = ((if re.contains i then some a else ((e[i]?).join).bind fun b => if okBack a b then some b else none).bind fun b => (finals re e (i + 1) r).map (b :: ·)) := by
  rw [finals]
  cases (if re.contains i then some a else ((e[i]?).join).bind fun b => if okBack a b then some b else none) with
  | none => rfl
  | some b => cases finals re e (i + 1) r <;> rfl
@[simp] theorem okb_v {p q : PV} : okBack (.v p) (.v q) = true := rfl
@[simp] theorem okb_o {p q : LD} : okBack (.own p) (.own q) = true := rfl
@[simp] theorem okb_l {p : LD} {xs : List PV} : okBack (.own p) (.v (.lst xs)) = true := rfl
section
variable {np : Nat} {re : List Nat} {as : List SV} {st : ST} {q : SV → List SV → List GI → Prop} {e : XV → List SV → List GI → Prop}
@[simp] theorem ret_v {p : PV} : (ret2 np re as (.v p) st).wq q e ↔ OW (finals re st.env 0 as) (fun bs => q (.v p) bs st.g) := by
  unfold ret2 retO
  dsimp only
  cases finals re st.env 0 as with
  | none => simp
  | some bs => simp
@[simp] theorem ret_o {d : LD} : (ret2 np re as (.own d) st).wq q e ↔ OW (finals re st.env 0 as) (fun bs => q (.own d) bs st.g) := by
  unfold ret2 retO
  dsimp only
  cases finals re st.env 0 as with
  | none => simp
  | some bs => simp
/-- a slot is handed back that is no parameter -/
@[simp] theorem ret_s {i : Nat} : (ret2 np re as (.slot i) st).wq q e ↔ if (decide (i < np) && !re.contains i) = true then (OW (ER.frz st (.slot i)) (fun z => OW (finals re z.2.env 0 as) (fun bs => q (.v z.1) bs z.2.g))) else OW (envAt st i) (fun a => OW (finals re st.env 0 as) (fun bs => q a bs st.g)) := by
  unfold ret2 retO
  dsimp only
  by_cases h : (decide (i < np) && !re.contains i) = true
  · rw [if_pos h, if_pos h]
    cases ER.frz st (.slot i) with
    | none => simp
    | some z =>
      obtain ⟨p, s⟩ := z
      cases h2 : finals re s.env 0 as with
      | none => simp [h2]
      | some bs => simp [h2]
  · rw [if_neg h, if_neg h]
    cases envAt st i with
    | none => simp
    | some a =>
      cases h2 : finals re st.env 0 as with
      | none => simp [h2]
      | some bs => simp [h2]
@[simp] theorem exc_is {x : XV} : ((match finals re st.env 0 as with | some cs => COut.exc x cs st.g | none => .bad) : COut).wq q e ↔ ∃ cs, finals re st.env 0 as = some cs ∧ e x cs st.g := by
  cases finals re st.env 0 as with
  | none => simp
  | some bs => simp
end
@[simp] theorem frzArgs_n {re : List Nat} {i : Nat} : frzArgs re i [] = some [] := rfl
@[simp] theorem frzArgs_c {re : List Nat} {i : Nat} {a : SV} {r : List SV} : frzArgs re i (a :: r) = ((if re.contains i then frzArg a else some a).bind fun b => (frzArgs re (i + 1) r).map (b :: ·)) := by
  rw [frzArgs]
  cases (if re.contains i then frzArg a else some a) with
  | none => rfl
  | some b => cases frzArgs re (i + 1) r <;> rfl
@[simp] theorem frzArg_v {p : PV} : frzArg (.v p) = some (.v p) := rfl
@[simp] theorem frzArg_o {xs : List PV} : frzArg (.own (.lst xs)) = some (.v (.lst xs)) := rfl
theorem so_mono {o : SO} {p p' : Post} (h : o.wq p) (h1 : ∀ st, p.nx st → p'.nx st) (h2 : ∀ r st, p.rt r st → p'.rt r st) (h3 : ∀ st, p.bk st → p'.bk st) (h4 : ∀ st, p.ct st → p'.ct st) (h5 : ∀ x st, p.xc x st → p'.xc x st) : o.wq p' := by
  cases o with
  | nx st => exact h1 _ h
  | ret r st => exact h2 _ _ h
  | bk st => exact h3 _ h
  | ct st => exact h4 _ h
  | exc x st => exact h5 _ _ h
  | bad => exact h.elim
theorem run_in {T : Tbl} {n m np : Nat} {re : List Nat} {body : SL} {f : Str} {as bs : List SV} {g : List GI} {q : SV → List SV → List GI → Prop} {e : XV → List SV → List GI → Prop} (hT : T f = some ⟨m, np, re, body⟩) (hl : as.length = np) (hf : frzArgs re 0 as = some bs)
    (h : (exs ⟨callN T n, np, re, whileFuel⟩ body ⟨bs.map some ++ List.replicate (m - np) none, g⟩).wq ⟨fun st => (ret2 np re bs (.v .non) st).wq q e, fun r st => (ret2 np re bs r st).wq q e, fun _ => False, fun _ => False, fun x st => OW (finals re st.env 0 bs) (fun cs => e x cs st.g)⟩) :
    (callN T (n + 1) f as g).wq q e := by
  refine call_wp hT hl hf ?_
  refine so_mono h (fun _ h => h) (fun _ _ h => h) (fun _ h => h) (fun _ h => h) fun x st h => ?_
  obtain ⟨cs, h1, h2⟩ := h
  dsimp only
  rw [h1]
  exact h2
/-- what a call comes to, as an equation -/
theorem eq_of {o : COut} {r : SV} {as : List SV} {g : List GI} (h : o.wq (fun r' as' g' => r' = r ∧ as' = as ∧ g' = g) fun _ _ _ => False) : o = .ret r as g := by
  cases o with
  | ret r' as' g' =>
    obtain ⟨rfl, rfl, rfl⟩ := h
    rfl
  | exc x as g => exact h.elim
  | bad => exact h.elim
end Q
end
section
set_option maxHeartbeats 4000000
namespace Q
open PySem
/-! ### small data -/
def atom : PV → Bool
  | .non => true
  | .bl _ => true
  | .int i => decide (i.natAbs < 10 ^ 12)
  | _ => false
theorem atom_lay {p : PV} (h : atom p = true) : p.toD.canLay0 = true ∧ p.toD.depth = 0 ∧ p.toD.weight ≤ 41 ∧ p.toD.intsShort 13 = true ∧ p.toD.showable = true := by
  cases p <;> first
    | (cases h; done)
    | skip
  · exact ⟨rfl, rfl, by decide, rfl, rfl⟩
  · exact ⟨rfl, rfl, by simp [PV.toD, PyData.weight], rfl, rfl⟩
  · rename_i i
    have h : i.natAbs < 10 ^ 12 := by simpa [atom] using h
    have hl : i.natAbs.log2 < 40 := log_lt (k := 40) (by omega) (by decide)
    refine ⟨rfl, rfl, ?_, ?_, ?_⟩
    · simp only [PV.toD, PyData.weight]
      split <;> omega
    · simp only [PV.toD, PyData.intsShort, decide_eq_true_eq]
      exact PyData.shown_int_le h
    · simp only [PV.toD, PyData.showable, decide_eq_true_eq]
      omega
theorem atoms_lay : ∀ {xs : List PV}, xs.all atom = true → PyData.canLayAll0 (PV.toDs xs) = true ∧ PyData.depthAll (PV.toDs xs) ≤ 1 ∧ PyData.weightAll (PV.toDs xs) ≤ 42 * xs.length ∧ PyData.intsShortAll 13 (PV.toDs xs) = true ∧ PyData.showableAll (PV.toDs xs) = true
  | [], _ => ⟨rfl, by simp [PV.toDs, PyData.depthAll], by simp [PV.toDs, PyData.weightAll], rfl, rfl⟩
  | x :: xs, h => by
    simp only [List.all_cons, Bool.and_eq_true] at h
    obtain ⟨a1, a2, a3, a4, a5⟩ := atom_lay h.1
    obtain ⟨b1, b2, b3, b4, b5⟩ := atoms_lay h.2
    refine ⟨by simp [PV.toDs, PyData.canLayAll0, a1, b1], ?_, ?_, by simp [PV.toDs, PyData.intsShortAll, a4, b4], by simp [PV.toDs, PyData.showableAll, a5, b5]⟩
    · simp only [PV.toDs, PyData.depthAll, a2]
      omega
    · simp only [PV.toDs, PyData.weightAll, List.length_cons]
      omega
theorem atom_fit {p : PV} (h : atom p = true) : p.fit = true := by
  obtain ⟨a1, a2, _⟩ := atom_lay h
  unfold PV.fit SeqAt.shaped
  rw [a1, a2]
  rfl
theorem flat_fit {xs : List PV} (h : xs.all atom = true) : (PV.tup xs).fit = true ∧ (PV.lst xs).fit = true := by
  obtain ⟨a1, a2, _⟩ := atoms_lay h
  constructor <;>
    (unfold PV.fit SeqAt.shaped
     simp only [PV.toD, PyData.canLay0, PyData.depth, a1, Bool.true_and, decide_eq_true_eq]
     omega)
theorem flat_repr {xs : List PV} (h : xs.all atom = true) (hl : xs.length ≤ 1000) : (PV.tup xs).toD.showable = true ∧ (PV.tup xs).toD.shown.length ≤ line ∧ (PV.lst xs).toD.showable = true ∧ (PV.lst xs).toD.shown.length ≤ line := by
  obtain ⟨a1, a2, a3, a4, a5⟩ := atoms_lay h
  have lt : PyData.layable0 (PV.tup xs).toD = true := by
    unfold PyData.layable0
    simp only [PV.toD, PyData.canLay0, PyData.depth, PyData.weight, a1, Bool.true_and, Bool.and_eq_true, decide_eq_true_eq]
    omega
  have ll : PyData.layable0 (PV.lst xs).toD = true := by
    unfold PyData.layable0
    simp only [PV.toD, PyData.canLay0, PyData.depth, PyData.weight, a1, Bool.true_and, Bool.and_eq_true, decide_eq_true_eq]
    omega
  have z := sizeL
  refine ⟨by simp only [PV.toD, PyData.showable]; exact a5, ?_, by simp only [PV.toD, PyData.showable]; exact a5, ?_⟩
  · rw [← z]
    exact PyData.shown_fits_of_layable0 (B := 13) (by decide) (by decide) lt (by simp only [PV.toD, PyData.intsShort]; exact a4)
  · rw [← z]
    exact PyData.shown_fits_of_layable0 (B := 13) (by decide) (by decide) ll (by simp only [PV.toD, PyData.intsShort]; exact a4)
/-- repr of a flat tuple -/
theorem repr_tup {xs : List PV} (h : xs.all atom = true) (hl : xs.length ≤ 1000) : bltO .repr [.v (.tup xs)] = some (.v (.str (PV.tup xs).toD.shown)) := by
  obtain ⟨r1, r2, _⟩ := flat_repr h hl
  simp only [bltO, DV.pv, (flat_fit h).1, r1, Bool.true_and, decide_eq_true r2, if_true]
theorem repr_bl (b : Bool) : bltO .repr [.v (.bl b)] = some (.v (.str (PyData.bool b).shown)) := by
  have h : (PyData.bool b).shown.length ≤ line := by cases b <;> decide +kernel
  simp only [bltO, DV.pv, atom_fit (p := .bl b) rfl, PV.toD, PyData.showable, Bool.true_and]
  exact if_pos (decide_eq_true h)
theorem shown_bl (a b : Bool) : ((PyData.bool a).shown == (PyData.bool b).shown) = (a == b) := by
  cases a <;> cases b <;> decide +kernel
theorem eq_str (a b : Str) : cmpO .Eq (.v (.str a)) (.v (.str b)) = some (a == b) := rfl
theorem ne_str (a b : Str) : cmpO .NotEq (.v (.str a)) (.v (.str b)) = some (!(a == b)) := rfl
theorem eqv_int (a b : Int) : PV.eqv (.int a) (.int b) = (a == b) := by
  simp [PV.eqv, PV.toD, PyData.eqv]
theorem eqv_str (a b : Str) : PV.eqv (.str a) (.str b) = (a == b) := by
  simp [PV.eqv, PV.toD, PyData.eqv]
theorem eq_int {a b : Int} (ha : a.natAbs < 10 ^ 12) (hb : b.natAbs < 10 ^ 12) : cmpO .Eq (.v (.int a)) (.v (.int b)) = some (a == b) := by
  have h1 := atom_fit (p := .int a) (by simpa [atom] using ha)
  have h2 := atom_fit (p := .int b) (by simpa [atom] using hb)
  simp [cmpO, eqO, DV.pv, h1, h2, eqv_int]
theorem ne_int {a b : Int} (ha : a.natAbs < 10 ^ 12) (hb : b.natAbs < 10 ^ 12) : cmpO .NotEq (.v (.int a)) (.v (.int b)) = some (!(a == b)) := by
  have h1 := atom_fit (p := .int a) (by simpa [atom] using ha)
  have h2 := atom_fit (p := .int b) (by simpa [atom] using hb)
  simp [cmpO, eqO, DV.pv, h1, h2, eqv_int]
end Q
end
section
set_option maxHeartbeats 4000000
namespace Q
open PySem
/-! ### operations -/
@[simp] theorem b_add {a b : Int} : binO .Add (.v (.int a)) (.v (.int b)) = some (.v (.int (a + b))) := rfl
@[simp] theorem b_sub {a b : Int} : binO .Sub (.v (.int a)) (.v (.int b)) = some (.v (.int (a - b))) := rfl
theorem b_mul {a b : Int} (h : mulOk a b = true) : binO .Mult (.v (.int a)) (.v (.int b)) = some (.v (.int (a * b))) := by simp [binO, binI, h]
theorem b_div {a b : Int} (h : 0 < b ∧ b.natAbs.log2 < 9000) : binO .FloorDiv (.v (.int a)) (.v (.int b)) = some (.v (.int (a / b))) := by simp [binO, binI, h]
theorem b_mod {a b : Int} (h : 0 < b) : binO .Mod (.v (.int a)) (.v (.int b)) = some (.v (.int (a % b))) := by simp [binO, binI, h]
theorem b_powW {a b : Int} (h : powW a b = true) : binO .Pow (.v (.int a)) (.v (.int b)) = some (.v (.int (a ^ b.toNat))) := by simp [binO, binI, h]
theorem b_pow {a b : Int} (h : powOk a b = true) : binO .Pow (.v (.int a)) (.v (.int b)) = some (.v (.int (a ^ b.toNat))) := by
  refine b_powW ?_
  unfold powOk at h
  simp only [Bool.and_eq_true, decide_eq_true_eq] at h
  have := PyProof.Rows.bits_mul_le (a := a) (n := b) (by omega) h.1.1 h.1.2
  unfold powW
  simp only [Bool.and_eq_true, decide_eq_true_eq]
  exact ⟨h.1.1, by omega⟩
theorem b_addt {a b : List PV} (h : a.length + b.length ≤ line) : binO .Add (.v (.tup a)) (.v (.tup b)) = some (.v (.tup (a ++ b))) := by simp [binO, addO, h]
theorem b_addl {x y : DV} {a b : List PV} (hx : x.lst = some a) (hy : y.lst = some b) (h : a.length + b.length ≤ line) : binO .Add x y = some (.own (.lst (a ++ b))) := by
  unfold binO
  split
  · cases hx
  · dsimp only
    unfold addO
    split
    · cases hx
    · cases hx
    · rw [hx, hy]
      dsimp only
      rw [if_pos h]
@[simp] theorem lst_v {xs : List PV} : DV.lst (.v (.lst xs)) = some xs := rfl
@[simp] theorem lst_d {xs : List PV} : DV.lst (.d (.lst xs)) = some xs := rfl
@[simp] theorem seq_t {xs : List PV} : DV.seq (.v (.tup xs)) = some xs := rfl
@[simp] theorem seq_l {xs : List PV} : DV.seq (.v (.lst xs)) = some xs := rfl
@[simp] theorem seq_d {xs : List PV} : DV.seq (.d (.lst xs)) = some xs := rfl
@[simp] theorem seq_r {ns : List Int} : DV.seq (.v (.scr ns)) = some (ns.map .int) := rfl
@[simp] theorem pv_v {p : PV} : DV.pv (.v p) = some p := rfl
@[simp] theorem pv_d {xs : List PV} : DV.pv (.d (.lst xs)) = some (.lst xs) := rfl
/-! comparisons -/
theorem fit_int (i : Int) : (PV.int i).fit = true := rfl
theorem fit_non : PV.non.fit = true := rfl
theorem fit_bl (b : Bool) : (PV.bl b).fit = true := rfl
@[simp] theorem c_eq {a b : Int} : cmpO .Eq (.v (.int a)) (.v (.int b)) = some (decide (a = b)) := by
  simp only [cmpO, eqO, DV.pv, fit_int, Bool.and_self, if_true, eqv_int]
  congr 1
@[simp] theorem c_ne {a b : Int} : cmpO .NotEq (.v (.int a)) (.v (.int b)) = some (!decide (a = b)) := by
  simp only [cmpO, eqO, DV.pv, fit_int, Bool.and_self, if_true, eqv_int, Option.map]
  congr 1
@[simp] theorem c_eqs {a b : Str} : cmpO .Eq (.v (.str a)) (.v (.str b)) = some (a == b) := rfl
@[simp] theorem c_nes {a b : Str} : cmpO .NotEq (.v (.str a)) (.v (.str b)) = some (!(a == b)) := rfl
@[simp] theorem c_lt {a b : Int} : cmpO .Lt (.v (.int a)) (.v (.int b)) = some (decide (a < b)) := rfl
@[simp] theorem c_le {a b : Int} : cmpO .LtE (.v (.int a)) (.v (.int b)) = some (decide (a ≤ b)) := rfl
@[simp] theorem c_gt {a b : Int} : cmpO .Gt (.v (.int a)) (.v (.int b)) = some (decide (b < a)) := rfl
@[simp] theorem c_ge {a b : Int} : cmpO .GtE (.v (.int a)) (.v (.int b)) = some (decide (b ≤ a)) := rfl
@[simp] theorem c_is {p : PV} : cmpO .Is (.v p) (.v .non) = some (isNone (.v p)) := by cases p <;> rfl
@[simp] theorem c_isn {p : PV} : cmpO .IsNot (.v p) (.v .non) = some (!isNone (.v p)) := by cases p <;> rfl
@[simp] theorem c_isd {d : LD} : cmpO .Is (.d d) (.v .non) = some false := rfl
@[simp] theorem c_isnd {d : LD} : cmpO .IsNot (.d d) (.v .non) = some true := rfl
@[simp] theorem c_isb {a b : Bool} : cmpO .Is (.v (.bl a)) (.v (.bl b)) = some (decide (a = b)) := rfl
@[simp] theorem c_isnb {a b : Bool} : cmpO .IsNot (.v (.bl a)) (.v (.bl b)) = some (!decide (a = b)) := rfl
@[simp] theorem none_n : isNone (.v .non) = true := rfl
@[simp] theorem none_i {i : Int} : isNone (.v (.int i)) = false := rfl
@[simp] theorem none_t {xs : List PV} : isNone (.v (.tup xs)) = false := rfl
@[simp] theorem none_l {xs : List PV} : isNone (.v (.lst xs)) = false := rfl
@[simp] theorem none_s {s : Str} : isNone (.v (.str s)) = false := rfl
@[simp] theorem none_b {b : Bool} : isNone (.v (.bl b)) = false := rfl
/-- equality of values that == takes -/
theorem c_eqv {x y : DV} {p q : PV} (hx : x.pv = some p) (hy : y.pv = some q) (h1 : p.fit = true) (h2 : q.fit = true) (hs : ∀ s, p ≠ .str s) : cmpO .Eq x y = some (p.eqv q) := by
  unfold cmpO eqO
  dsimp only
  split
  · cases hx; exact absurd rfl (hs _)
  · rw [hx, hy]
    dsimp only
    rw [h1, h2]
    rfl
theorem c_nev {x y : DV} {p q : PV} (hx : x.pv = some p) (hy : y.pv = some q) (h1 : p.fit = true) (h2 : q.fit = true) (hs : ∀ s, p ≠ .str s) : cmpO .NotEq x y = some (!p.eqv q) := by
  have h : cmpO .NotEq x y = (cmpO .Eq x y).map (!·) := rfl
  rw [h, c_eqv hx hy h1 h2 hs]
  rfl
@[simp] theorem t_bl {b : Bool} : truthy (.v (.bl b)) = some b := rfl
@[simp] theorem t_tup {xs : List PV} : truthy (.v (.tup xs)) = some (!xs.isEmpty) := rfl
@[simp] theorem t_lst {xs : List PV} : truthy (.d (.lst xs)) = some (!xs.isEmpty) := rfl
/-! subscripts -/
@[simp] theorem ixN_n {n i : Nat} : ixN n (i : Int) = if i < n then some i else none := by
  unfold ixN
  have : ((i : Int) < n) ↔ i < n := Int.ofNat_lt
  simp [this]
@[simp] theorem ix_0 {x : PV} {xs : List PV} : ixO (.v (.tup (x :: xs))) (.v (.int 0)) = some x := by
  have : ixO (.v (.tup (x :: xs))) (.v (.int 0)) = (ixN (x :: xs).length ((0 : Nat) : Int)).bind fun j => (x :: xs)[j]? := rfl
  rw [this, ixN_n]
  simp
theorem ix_of {xs : List PV} {i : Nat} {x : PV} (h : xs[i]? = some x) : ixO (.v (.tup xs)) (.v (.int (i : Int))) = some x := by
  have : ixO (.v (.tup xs)) (.v (.int (i : Int))) = (ixN xs.length (i : Int)).bind fun j => xs[j]? := rfl
  have hl := (List.getElem?_eq_some_iff.mp h).1
  rw [this, ixN_n, if_pos hl]
  exact h
theorem ix_ofl {xs : List PV} {i : Nat} {x : PV} (h : xs[i]? = some x) : ixO (.d (.lst xs)) (.v (.int (i : Int))) = some x := by
  have : ixO (.d (.lst xs)) (.v (.int (i : Int))) = (ixN xs.length (i : Int)).bind fun j => xs[j]? := rfl
  have hl := (List.getElem?_eq_some_iff.mp h).1
  rw [this, ixN_n, if_pos hl]
  exact h
theorem ix_ofv {xs : List PV} {i : Nat} {x : PV} (h : xs[i]? = some x) : ixO (.v (.lst xs)) (.v (.int (i : Int))) = some x := by
  have : ixO (.v (.lst xs)) (.v (.int (i : Int))) = (ixN xs.length (i : Int)).bind fun j => xs[j]? := rfl
  have hl := (List.getElem?_eq_some_iff.mp h).1
  rw [this, ixN_n, if_pos hl]
  exact h
@[simp] theorem ix_1 {x y : PV} {xs : List PV} : ixO (.v (.tup (x :: y :: xs))) (.v (.int 1)) = some y := ix_of (i := 1) rfl
@[simp] theorem ix_2 {x y z : PV} {xs : List PV} : ixO (.v (.tup (x :: y :: z :: xs))) (.v (.int 2)) = some z := ix_of (i := 2) rfl
@[simp] theorem ix_3 {x y z w : PV} {xs : List PV} : ixO (.v (.tup (x :: y :: z :: w :: xs))) (.v (.int 3)) = some w := ix_of (i := 3) rfl
@[simp] theorem ix_4 {x y z w u : PV} {xs : List PV} : ixO (.v (.tup (x :: y :: z :: w :: u :: xs))) (.v (.int 4)) = some u := ix_of (i := 4) rfl
/-! built-in functions -/
@[simp] theorem f_lent {xs : List PV} : bltO .len [.v (.tup xs)] = some (.v (.int xs.length)) := rfl
@[simp] theorem f_lenl {xs : List PV} : bltO .len [.v (.lst xs)] = some (.v (.int xs.length)) := rfl
@[simp] theorem f_lend {xs : List PV} : bltO .len [.d (.lst xs)] = some (.v (.int xs.length)) := rfl
@[simp] theorem f_lens {ns : List Int} : bltO .len [.v (.scr ns)] = some (.v (.int ns.length)) := by simp [bltO, DV.seq]
@[simp] theorem f_tup {x : DV} : bltO .tuple [x] = x.seq.map fun xs => .v (.tup xs) := by cases x <;> rfl
@[simp] theorem f_list {x : DV} : bltO .list [x] = x.seq.map fun xs => .own (.lst xs) := by cases x <;> rfl
@[simp] theorem f_all {x : DV} : bltO .all [x] = (x.lst.bind boolsOf).map fun bs => .v (.bl (bs.all id)) := by cases x <;> rfl
@[simp] theorem f_int {i : Int} : bltO .int [.v (.int i)] = some (.v (.int i)) := rfl
@[simp] theorem f_max {i j : Int} : bltO .max2 [.v (.int i), .v (.int j)] = some (.v (.int (if j > i then j else i))) := rfl
@[simp] theorem f_min {i j : Int} : bltO .min2 [.v (.int i), .v (.int j)] = some (.v (.int (if j < i then j else i))) := rfl
@[simp] theorem bools_m {α : Type} (f : α → Bool) : ∀ l : List α, boolsOf (l.map fun a => .bl (f a)) = some (l.map f)
  | [] => rfl
  | a :: l => by
    rw [List.map_cons, boolsOf, bools_m f l]
    rfl
@[simp] theorem i_tup {xs : List PV} : itemsOf (.tup xs) = some xs := rfl
@[simp] theorem i_lst {xs : List PV} : itemsOf (.lst xs) = some xs := rfl
@[simp] theorem i_scr {ns : List Int} : itemsOf (.scr ns) = some (ns.map .int) := rfl
theorem ranged_0 (n : Nat) : ranged 0 n = (List.range n).map fun (i : Nat) => .int i := by
  unfold ranged
  exact List.map_congr_left fun i _ => by rw [Int.zero_add]
theorem r_0 {n : Nat} (h : n ≤ 16777216) : rngO (.v (.int (n : Int))) = some ((List.range n).map fun (i : Nat) => .int i) := by
  unfold rngO
  dsimp only
  rw [if_pos ⟨by unfold big; omega, by unfold line; omega⟩, ranged_0]
  rfl
theorem rev_0 {n : Nat} (h : n ≤ 16777216) : revO (.v (.int (n : Int))) = some ((List.range n).reverse.map fun (i : Nat) => .int i) := by
  unfold revO
  dsimp only
  rw [if_pos ⟨by unfold big; omega, by unfold line; omega⟩]
  unfold ranged'
  refine congrArg some (List.ext_getElem (by simp) fun i h1 h2 => ?_)
  simp at h1 h2
  simp [List.getElem_reverse]
  omega
@[simp] theorem m_app {xs : List PV} {p : PV} (h : xs.length < line) : mutO .append xs [p] = some (.non, xs ++ [p]) := by simp [mutO, h]
@[simp] theorem is_bi {b : Bool} : isiO (.v (.bl b)) .int = some true := rfl
@[simp] theorem is_bb {b : Bool} : isiO (.v (.bl b)) .bool = some true := rfl
@[simp] theorem is_ii {i : Int} : isiO (.v (.int i)) .int = some true := rfl
@[simp] theorem is_ib {i : Int} : isiO (.v (.int i)) .bool = some false := rfl
@[simp] theorem is_tt {xs : List PV} : isiO (.v (.tup xs)) .tuple = some true := rfl
@[simp] theorem is_tl {xs : List PV} : isiO (.v (.tup xs)) .list = some false := rfl
@[simp] theorem is_ss {s : Str} : isiO (.v (.str s)) .str = some true := rfl
@[simp] theorem is_nt : isiO (.v .non) .tuple = some false := rfl
@[simp] theorem is_dl {xs : List PV} : isiO (.d (.lst xs)) .list = some true := rfl
@[simp] theorem is_dt {xs : List PV} : isiO (.d (.lst xs)) .tuple = some false := rfl
@[simp] theorem line_1 : 1 ≤ line := by decide
@[simp] theorem line_2 : 2 ≤ line := by decide
@[simp] theorem line_3 : 3 ≤ line := by decide
@[simp] theorem line_4 : 4 ≤ line := by decide
@[simp] theorem line_5 : 5 ≤ line := by decide
@[simp] theorem line_6 : 6 ≤ line := by decide
@[simp] theorem line_7 : 7 ≤ line := by decide
@[simp] theorem line_8 : 8 ≤ line := by decide
@[simp] theorem line_9 : 9 ≤ line := by decide
theorem cut_lo {α : Type} {xs : List α} {j : Nat} : cut xs none (some (j : Int)) = xs.take j := by
  have e1 : HT.sIx xs.length xs.length (some (j : Int)) = min j xs.length := HT.sIx_nat _ _ _
  have e2 : HT.sIx xs.length 0 none = 0 := rfl
  unfold cut
  rw [e1, e2, Nat.sub_zero, List.drop_zero]
  by_cases h : j ≤ xs.length
  · rw [Nat.min_eq_left h]
  · rw [Nat.min_eq_right (by omega), List.take_of_length_le (Nat.le_refl _), List.take_of_length_le (by omega)]
theorem cut_hi {α : Type} {xs : List α} {j : Nat} : cut xs (some (j : Int)) none = xs.drop j := by
  have e1 : HT.sIx xs.length 0 (some (j : Int)) = min j xs.length := HT.sIx_nat _ _ _
  have e2 : HT.sIx xs.length xs.length none = xs.length := rfl
  unfold cut
  rw [e1, e2]
  by_cases h : j ≤ xs.length
  · rw [Nat.min_eq_left h, List.take_of_length_le (by rw [List.length_drop]; omega)]
  · rw [Nat.min_eq_right (by omega), List.drop_of_length_le (Nat.le_refl _), List.drop_of_length_le (by omega)]
    simp
theorem cut_hi1 {α : Type} {xs : List α} {j : Nat} : cut xs (some ((j : Int) + 1)) none = xs.drop (j + 1) := by
  have := cut_hi (xs := xs) (j := j + 1)
  rwa [Int.natCast_add] at this
@[simp] theorem cut_1 {α : Type} {xs : List α} : cut xs (some 1) none = xs.drop 1 := cut_hi (j := 1)
@[simp] theorem sl_t {xs : List PV} {lo hi : Option Int} : slO (.v (.tup xs)) lo hi = some (.v (.tup (cut xs lo hi))) := rfl
@[simp] theorem sl_l {xs : List PV} {lo hi : Option Int} : slO (.v (.lst xs)) lo hi = some (.own (.lst (cut xs lo hi))) := rfl
@[simp] theorem sl_d {xs : List PV} {lo hi : Option Int} : slO (.d (.lst xs)) lo hi = some (.own (.lst (cut xs lo hi))) := rfl
@[simp] theorem sl_s {ns : List Int} {lo hi : Option Int} : slO (.v (.scr ns)) lo hi = some (.own (.lst (cut (ns.map .int) lo hi))) := rfl

@[simp] theorem nat_eq_lit {a n : Nat} : ((a : Int) = no_index (OfNat.ofNat n)) ↔ a = OfNat.ofNat n := Int.ofNat_inj
@[simp] theorem lit_eq_nat {a n : Nat} : ((no_index (OfNat.ofNat n) : Int) = (a : Int)) ↔ OfNat.ofNat n = a := Int.ofNat_inj
@[simp] theorem nat_lt_lit {a n : Nat} : ((a : Int) < no_index (OfNat.ofNat n)) ↔ a < OfNat.ofNat n := Int.ofNat_lt
@[simp] theorem lit_lt_nat {a n : Nat} : ((no_index (OfNat.ofNat n) : Int) < (a : Int)) ↔ OfNat.ofNat n < a := Int.ofNat_lt
@[simp] theorem nat_le_lit {a n : Nat} : ((a : Int) ≤ no_index (OfNat.ofNat n)) ↔ a ≤ OfNat.ofNat n := Int.ofNat_le
@[simp] theorem lit_le_nat {a n : Nat} : ((no_index (OfNat.ofNat n) : Int) ≤ (a : Int)) ↔ OfNat.ofNat n ≤ a := Int.ofNat_le
end Q
end
section
namespace Q.M
/-! ### rules, what they force, what comes -/
inductive Rule where
  | among (f : Nat) (es : List Nat) | mtch (f g : Nat) (ps : List (Nat × Nat)) | eith (f v g w : Nat)
  deriving DecidableEq
abbrev Lit := Nat × Nat

def vl (row : List Nat) (f : Nat) : Nat := row.getD f 0
def ROk (ns : List Nat) : Rule → Prop
  | .among f es => f < ns.length ∧ es.Pairwise (· < ·) ∧ ∀ e ∈ es, e < vl ns f
  | .mtch f g ps => f < g ∧ g < ns.length ∧ ps.Pairwise (fun p q => p.1 < q.1) ∧ ps.Pairwise (fun p q => p.2 ≠ q.2) ∧ ∀ p ∈ ps, p.1 < vl ns f ∧ p.2 < vl ns g
  | .eith f v g w => f < g ∧ g < ns.length ∧ v < vl ns f ∧ w < vl ns g
def BOk (ns : List Nat) (B : List Rule) : Prop := ∀ r ∈ B, ROk ns r
def LOk (ns : List Nat) (l : Lit) : Prop := l.2 < vl ns l.1
theorem LOk.lt {ns : List Nat} {l : Lit} (h : LOk ns l) : l.1 < ns.length := by
  unfold LOk vl at h
  rw [List.getD_eq_getElem?_getD] at h
  by_cases q : l.1 < ns.length
  · exact q
  · rw [List.getElem?_eq_none (by omega)] at h
    simp at h
def holds (r : Rule) (row : List Nat) : Bool := match r with
  | .among f es => es.contains (vl row f)
  | .mtch f g ps => ps.contains (vl row f, vl row g)
  | .eith f v g w => vl row f == v || vl row g == w
def pairHit (f g : Nat) (l : Lit) (p : Nat × Nat) : Option Lit := if l.1 = f ∧ l.2 = p.1 then some (g, p.2) else if l.1 = g ∧ l.2 = p.2 then some (f, p.1) else none
def forced (r : Rule) (l : Lit) : Option Lit := match r with
  | .among _ _ => none
  | .mtch f g ps => ps.findSome? (pairHit f g l)
  | .eith f v g w => if l.1 = f ∧ l.2 ≠ v then some (g, w) else if l.1 = g ∧ l.2 ≠ w then some (f, v) else none
def refuses (r : Rule) (l : Lit) : Bool := match r with
  | .among f es => l.1 == f && !es.contains l.2
  | .mtch f g ps => (l.1 == f || l.1 == g) && (forced (.mtch f g ps) l).isNone
  | .eith _ _ _ _ => false
inductive Reach (B : List Rule) (S : List Lit) : Lit → Prop where
  | base {l : Lit} (h : l ∈ S) : Reach B S l
  | step {l l' : Lit} {r : Rule} (hr : r ∈ B) (h : Reach B S l) (hf : forced r l = some l') : Reach B S l'
def Clash (B : List Rule) (S : List Lit) : Prop := (∃ l r, Reach B S l ∧ r ∈ B ∧ refuses r l = true) ∨ ∃ f v w, Reach B S (f, v) ∧ Reach B S (f, w) ∧ v ≠ w
def Fill (ns row : List Nat) : Prop := row.length = ns.length ∧ ∀ f, f < ns.length → vl row f < vl ns f
def Keeps (B : List Rule) (row : List Nat) : Prop := ∀ r ∈ B, holds r row = true
/-- what a match forces -/
theorem pw_uniq {ps : List (Nat × Nat)} {R : Nat × Nat → Nat × Nat → Prop} (hR : ∀ p q, R p q → p ≠ q) {K : Nat × Nat → Nat} (hK : ∀ p q, R p q → K p ≠ K q) (h : ps.Pairwise R) {p q : Nat × Nat} (hp : p ∈ ps) (hq : q ∈ ps) (e : K p = K q) : p = q := by
  induction ps with
  | nil => cases hp
  | cons x r ih =>
    obtain ⟨h1, h2⟩ := List.pairwise_cons.mp h
    rcases List.mem_cons.mp hp with e1 | m1
    · rcases List.mem_cons.mp hq with e2 | m2
      · rw [e1, e2]
      · rw [e1] at e
        exact absurd e (hK _ _ (h1 _ m2))
    · rcases List.mem_cons.mp hq with e2 | m2
      · rw [e2] at e
        exact absurd e.symm (hK _ _ (h1 _ m1))
      · exact ih h2 m1 m2
theorem uniq1 {ps : List (Nat × Nat)} (h : ps.Pairwise (fun p q => p.1 < q.1)) {p q : Nat × Nat} (hp : p ∈ ps) (hq : q ∈ ps) (e : p.1 = q.1) : p = q :=
  pw_uniq (R := fun p q => p.1 < q.1) (K := (·.1)) (fun p q h e => by subst e; omega) (fun p q h => by omega) h hp hq e
theorem uniq2 {ps : List (Nat × Nat)} (h : ps.Pairwise (fun p q => p.2 ≠ q.2)) {p q : Nat × Nat} (hp : p ∈ ps) (hq : q ∈ ps) (e : p.2 = q.2) : p = q :=
  pw_uniq (R := fun p q => p.2 ≠ q.2) (K := (·.2)) (fun p q h e => h (by rw [e])) (fun p q h => h) h hp hq e
theorem forced_m {ns : List Nat} {f g : Nat} {ps : List (Nat × Nat)} (h : ROk ns (.mtch f g ps)) {l l' : Lit} : forced (.mtch f g ps) l = some l' ↔ (l.1 = f ∧ l'.1 = g ∧ (l.2, l'.2) ∈ ps) ∨ (l.1 = g ∧ l'.1 = f ∧ (l'.2, l.2) ∈ ps) := by
  obtain ⟨hfg, _, h1, h2, _⟩ := h
  obtain ⟨a, v⟩ := l
  obtain ⟨b, w⟩ := l'
  have key : ∀ q : List (Nat × Nat), (∀ p ∈ q, p ∈ ps) → (q.findSome? (pairHit f g (a, v)) = some (b, w) ↔ (a = f ∧ b = g ∧ (v, w) ∈ q) ∨ (a = g ∧ b = f ∧ (w, v) ∈ q)) := by
    intro q
    induction q with
    | nil => intro _; simp
    | cons p q ih =>
      intro hq
      have ih := ih fun p hp => hq p (List.mem_cons_of_mem _ hp)
      have pin := hq p (List.mem_cons_self ..)
      rw [List.findSome?_cons]
      have ph : pairHit f g (a, v) p = if a = f ∧ v = p.1 then some (g, p.2) else if a = g ∧ v = p.2 then some (f, p.1) else none := rfl
      rw [ph]
      by_cases c1 : a = f ∧ v = p.1
      · rw [if_pos c1]
        obtain ⟨rfl, rfl⟩ := c1
        constructor
        · intro e
          cases e
          exact .inl ⟨rfl, rfl, List.mem_cons_self ..⟩
        · rintro (⟨_, rfl, m⟩ | ⟨e, _, _⟩)
          · have : (p.1, w) = p := by
              rcases List.mem_cons.mp m with e | m
              · exact e
              · exact uniq1 h1 (hq _ (List.mem_cons_of_mem _ m)) pin rfl
            have e2 : p.2 = w := by rw [← this]
            rw [e2]
          · omega
      · rw [if_neg c1]
        by_cases c2 : a = g ∧ v = p.2
        · rw [if_pos c2]
          obtain ⟨rfl, rfl⟩ := c2
          constructor
          · intro e
            cases e
            exact .inr ⟨rfl, rfl, List.mem_cons_self ..⟩
          · rintro (⟨e, _, _⟩ | ⟨_, rfl, m⟩)
            · omega
            · have : (w, p.2) = p := by
                rcases List.mem_cons.mp m with e | m
                · exact e
                · exact uniq2 h2 (hq _ (List.mem_cons_of_mem _ m)) pin rfl
              have e2 : p.1 = w := by rw [← this]
              rw [e2]
        · rw [if_neg c2]
          dsimp only
          rw [ih]
          constructor
          · rintro (⟨e1, e2, m⟩ | ⟨e1, e2, m⟩)
            · exact .inl ⟨e1, e2, List.mem_cons_of_mem _ m⟩
            · exact .inr ⟨e1, e2, List.mem_cons_of_mem _ m⟩
          · rintro (⟨e1, e2, m⟩ | ⟨e1, e2, m⟩)
            · rcases List.mem_cons.mp m with e | m
              · exact absurd ⟨e1, by rw [← e]⟩ c1
              · exact .inl ⟨e1, e2, m⟩
            · rcases List.mem_cons.mp m with e | m
              · exact absurd ⟨e1, by rw [← e]⟩ c2
              · exact .inr ⟨e1, e2, m⟩
  exact key ps fun _ h => h
theorem forced_e {f v g w : Nat} (hfg : f < g) {l l' : Lit} : forced (.eith f v g w) l = some l' ↔ (l.1 = f ∧ l.2 ≠ v ∧ l' = (g, w)) ∨ (l.1 = g ∧ l.2 ≠ w ∧ l' = (f, v)) := by
  unfold forced
  dsimp only
  split
  · rename_i c
    constructor
    · intro e
      cases e
      exact .inl ⟨c.1, c.2, rfl⟩
    · rintro (⟨_, _, e⟩ | ⟨e, _, _⟩)
      · rw [e]
      · omega
  · rename_i c
    split
    · rename_i c2
      constructor
      · intro e
        cases e
        exact .inr ⟨c2.1, c2.2, rfl⟩
      · rintro (⟨e1, e2, _⟩ | ⟨_, _, e⟩)
        · exact absurd ⟨e1, e2⟩ c
        · rw [e]
    · rename_i c2
      constructor
      · intro e
        cases e
      · rintro (⟨e1, e2, _⟩ | ⟨e1, e2, _⟩)
        · exact absurd ⟨e1, e2⟩ c
        · exact absurd ⟨e1, e2⟩ c2
/-- what is forced is a value of the sheet -/
theorem forced_ok {ns : List Nat} {r : Rule} (h : ROk ns r) {l l' : Lit} (e : forced r l = some l') : LOk ns l' := by
  cases r with
  | among f es => cases e
  | mtch f g ps =>
    unfold LOk
    rcases (forced_m h).mp e with ⟨_, e2, m⟩ | ⟨_, e2, m⟩
    · rw [e2]
      exact (h.2.2.2.2 _ m).2
    · rw [e2]
      exact (h.2.2.2.2 _ m).1
  | eith f v g w =>
    rcases (forced_e h.1).mp e with ⟨_, _, rfl⟩ | ⟨_, _, rfl⟩
    · exact h.2.2.2
    · exact h.2.2.1
theorem reach_ok {ns : List Nat} {B : List Rule} {S : List Lit} (hB : BOk ns B) (hS : ∀ l ∈ S, LOk ns l) {l : Lit} (h : Reach B S l) : LOk ns l := by
  induction h with
  | base h => exact hS _ h
  | step hr _ hf _ => exact forced_ok (hB _ hr) hf
theorem Reach.mono {B B' : List Rule} {S S' : List Lit} (hB : ∀ r ∈ B, r ∈ B') (hS : ∀ l ∈ S, l ∈ S') {l : Lit} (h : Reach B S l) : Reach B' S' l := by
  induction h with
  | base h => exact .base (hS _ h)
  | step hr _ hf ih => exact .step (hB _ hr) ih hf
theorem Reach.trans {B : List Rule} {S S' : List Lit} (h : ∀ l ∈ S, Reach B S' l) {l : Lit} (h2 : Reach B S l) : Reach B S' l := by
  induction h2 with
  | base m => exact h _ m
  | step hr _ hf ih => exact .step hr ih hf
/-- forcing goes from one value -/
theorem reach_one {B : List Rule} {S : List Lit} {l : Lit} (h : Reach B S l) : ∃ s ∈ S, Reach B [s] l := by
  induction h with
  | base m => exact ⟨_, m, .base (List.mem_singleton.mpr rfl)⟩
  | step hr _ hf ih =>
    obtain ⟨s, m, h⟩ := ih
    exact ⟨s, m, .step hr h hf⟩
theorem reach_of_one {B : List Rule} {S : List Lit} {s l : Lit} (hs : s ∈ S) (h : Reach B [s] l) : Reach B S l :=
  h.mono (fun _ h => h) fun l m => by
    rw [List.mem_singleton] at m
    rw [m]
    exact hs
theorem clash_mono {B B' : List Rule} {S S' : List Lit} (hB : ∀ r ∈ B, r ∈ B') (hS : ∀ l ∈ S, l ∈ S') (h : Clash B S) : Clash B' S' := by
  rcases h with ⟨l, r, h, hr, q⟩ | ⟨f, v, w, h1, h2, ne⟩
  · exact .inl ⟨l, r, h.mono hB hS, hB _ hr, q⟩
  · exact .inr ⟨f, v, w, h1.mono hB hS, h2.mono hB hS, ne⟩
/-! ### a filling that keeps a book has what comes -/
theorem forced_has {ns : List Nat} {r : Rule} (h : ROk ns r) {row : List Nat} (hk : holds r row = true) {l l' : Lit} (hl : vl row l.1 = l.2) (e : forced r l = some l') : vl row l'.1 = l'.2 := by
  cases r with
  | among f es => cases e
  | mtch f g ps =>
    have hk : (vl row f, vl row g) ∈ ps := by simpa [holds] using hk
    rcases (forced_m h).mp e with ⟨e1, e2, m⟩ | ⟨e1, e2, m⟩
    · rw [e2]
      rw [e1] at hl
      have := uniq1 h.2.2.1 m hk (by simpa using hl.symm)
      exact (congrArg (·.2) this).symm
    · rw [e2]
      rw [e1] at hl
      have := uniq2 h.2.2.2.1 m hk (by simpa using hl.symm)
      exact (congrArg (·.1) this).symm
  | eith f v g w =>
    have hk : vl row f = v ∨ vl row g = w := by simpa [holds] using hk
    rcases (forced_e h.1).mp e with ⟨e1, e2, rfl⟩ | ⟨e1, e2, rfl⟩
    · rw [e1] at hl
      rcases hk with k | k
      · exact absurd (hl.symm.trans k) e2
      · exact k
    · rw [e1] at hl
      rcases hk with k | k
      · exact k
      · exact absurd (hl.symm.trans k) e2
theorem not_refused {ns : List Nat} {r : Rule} (h : ROk ns r) {row : List Nat} (hk : holds r row = true) {l : Lit} (hl : vl row l.1 = l.2) : refuses r l = false := by
  cases r with
  | among f es =>
    unfold refuses
    by_cases e : l.1 = f
    · have : es.contains (vl row f) = true := hk
      rw [e] at hl
      rw [hl] at this
      show (l.1 == f && !es.contains l.2) = false
      rw [this]
      simp
    · simp [e]
  | mtch f g ps =>
    have hk : (vl row f, vl row g) ∈ ps := by simpa [holds] using hk
    unfold refuses
    by_cases e : l.1 = f
    · have : forced (.mtch f g ps) l = some (g, vl row g) := (forced_m h).mpr (.inl ⟨e, rfl, by rw [← hl, e]; exact hk⟩)
      simp [this]
    · by_cases e2 : l.1 = g
      · have : forced (.mtch f g ps) l = some (f, vl row f) := (forced_m h).mpr (.inr ⟨e2, rfl, by rw [← hl, e2]; exact hk⟩)
        simp [this]
      · simp [e, e2]
  | eith f v g w => rfl
theorem reach_has {ns : List Nat} {B : List Rule} (hB : BOk ns B) {row : List Nat} (hk : Keeps B row) {S : List Lit} (hS : ∀ l ∈ S, vl row l.1 = l.2) {l : Lit} (h : Reach B S l) : vl row l.1 = l.2 := by
  induction h with
  | base m => exact hS _ m
  | step hr _ hf ih => exact forced_has (hB _ hr) (hk _ hr) ih hf
theorem no_clash {ns : List Nat} {B : List Rule} (hB : BOk ns B) {row : List Nat} (hk : Keeps B row) {S : List Lit} (hS : ∀ l ∈ S, vl row l.1 = l.2) : ¬ Clash B S := by
  rintro (⟨l, r, h, hr, q⟩ | ⟨f, v, w, h1, h2, ne⟩)
  · rw [not_refused (hB _ hr) (hk _ hr) (reach_has hB hk hS h)] at q
    cases q
  · exact ne ((reach_has hB hk hS h1).symm.trans (reach_has hB hk hS h2))
/-! ### backwards -/
/-- if a value forces another one, each other value of that field forces another value of the first one's field, or is refused -/
theorem forced_back {ns : List Nat} {r : Rule} (h : ROk ns r) {l l' m : Lit} (e : forced r l = some l') (hm : m.1 = l'.1) (hv : m.2 ≠ l'.2) (hn : refuses r m = false) : ∃ m', forced r m = some m' ∧ m'.1 = l.1 ∧ m'.2 ≠ l.2 := by
  cases r with
  | among f es => cases e
  | mtch f g ps =>
    rcases (forced_m h).mp e with ⟨e1, e2, k⟩ | ⟨e1, e2, k⟩
    · cases q : forced (.mtch f g ps) m with
      | none =>
        have hn : ((m.1 == f || m.1 == g) && (forced (.mtch f g ps) m).isNone) = false := hn
        rw [q, hm, e2] at hn
        simp at hn
      | some m' =>
        refine ⟨m', rfl, ?_⟩
        rcases (forced_m h).mp q with ⟨q1, q2, k2⟩ | ⟨q1, q2, k2⟩
        · have := h.1
          rw [hm, e2] at q1
          omega
        · refine ⟨q2.trans e1.symm, fun z => hv ?_⟩
          rw [z] at k2
          exact congrArg (·.2) (uniq1 h.2.2.1 k2 k rfl)
    · cases q : forced (.mtch f g ps) m with
      | none =>
        have hn : ((m.1 == f || m.1 == g) && (forced (.mtch f g ps) m).isNone) = false := hn
        rw [q, hm, e2] at hn
        simp at hn
      | some m' =>
        refine ⟨m', rfl, ?_⟩
        rcases (forced_m h).mp q with ⟨q1, q2, k2⟩ | ⟨q1, q2, k2⟩
        · refine ⟨q2.trans e1.symm, fun z => hv ?_⟩
          rw [z] at k2
          exact congrArg (·.1) (uniq2 h.2.2.2.1 k2 k rfl)
        · have := h.1
          rw [hm, e2] at q1
          omega
  | eith f v g w =>
    rcases (forced_e h.1).mp e with ⟨e1, e2, rfl⟩ | ⟨e1, e2, rfl⟩
    · exact ⟨(f, v), (forced_e h.1).mpr (.inr ⟨hm, hv, rfl⟩), e1.symm, fun z => e2 z.symm⟩
    · exact ⟨(g, w), (forced_e h.1).mpr (.inl ⟨hm, hv, rfl⟩), e1.symm, fun z => e2 z.symm⟩
/-- a set of values that is closed and has no refused one -/
structure Closed (B : List Rule) (C : Lit → Prop) : Prop where
  step : ∀ l l' r, C l → r ∈ B → forced r l = some l' → C l'
  ok : ∀ l r, C l → r ∈ B → refuses r l = false
theorem Closed.back {ns : List Nat} {B : List Rule} (hB : BOk ns B) {C : Lit → Prop} (hC : Closed B C) {s l : Lit} (h : Reach B [s] l) : ∀ m, C m → m.1 = l.1 → m.2 ≠ l.2 → ∃ m', C m' ∧ m'.1 = s.1 ∧ m'.2 ≠ s.2 := by
  induction h with
  | base m =>
    rw [List.mem_singleton] at m
    subst m
    exact fun m h1 h2 h3 => ⟨m, h1, h2, h3⟩
  | step hr _ hf ih =>
    intro m h1 h2 h3
    obtain ⟨m', q1, q2, q3⟩ := forced_back (hB _ hr) hf h2 h3 (hC.ok _ _ h1 hr)
    exact ih m' (hC.step _ _ _ h1 hr q1) q2 q3
theorem closed_of {B : List Rule} {S : List Lit} (h : ¬ Clash B S) : Closed B (Reach B S) :=
  ⟨fun _ _ _ h1 hr hf => .step hr h1 hf, fun l r h1 hr => by
    cases q : refuses r l with
    | false => rfl
    | true => exact absurd (.inl ⟨l, r, h1, hr, q⟩) h⟩
def Alone (B : List Rule) (l : Lit) : Prop := ¬ Clash B [l]
/-- clashes come from one or two values -/
theorem clash_two {B : List Rule} {S : List Lit} (h : Clash B S) : ∃ s ∈ S, ∃ t ∈ S, Clash B [s, t] := by
  rcases h with ⟨l, r, h, hr, q⟩ | ⟨f, v, w, h1, h2, ne⟩
  · obtain ⟨s, m, h⟩ := reach_one h
    exact ⟨s, m, s, m, .inl ⟨l, r, reach_of_one (List.mem_cons_self ..) h, hr, q⟩⟩
  · obtain ⟨s, m, h1⟩ := reach_one h1
    obtain ⟨t, n, h2⟩ := reach_one h2
    exact ⟨s, m, t, n, .inr ⟨f, v, w, reach_of_one (List.mem_cons_self ..) h1, reach_of_one (by simp) h2, ne⟩⟩
theorem mem_pair {x a b : Lit} : x ∈ [a, b] ↔ x = a ∨ x = b := by simp
/-- two values that do not clash alone clash together by one field -/
theorem clash_pair {B : List Rule} {s t : Lit} (hs : Alone B s) (ht : Alone B t) : Clash B [s, t] ↔ ∃ f v w, Reach B [s] (f, v) ∧ Reach B [t] (f, w) ∧ v ≠ w := by
  constructor
  · rintro (⟨l, r, h, hr, q⟩ | ⟨f, v, w, h1, h2, ne⟩)
    · obtain ⟨x, m, k⟩ := reach_one h
      rcases mem_pair.mp m with e | e <;> subst e
      · exact absurd (.inl ⟨l, r, k, hr, q⟩) hs
      · exact absurd (.inl ⟨l, r, k, hr, q⟩) ht
    · obtain ⟨x, m, k1⟩ := reach_one h1
      obtain ⟨y, n, k2⟩ := reach_one h2
      rcases mem_pair.mp m with e | e <;> rcases mem_pair.mp n with e' | e'
      · rw [e] at k1
        rw [e'] at k2
        exact absurd (.inr ⟨f, v, w, k1, k2, ne⟩) hs
      · rw [e] at k1
        rw [e'] at k2
        exact ⟨f, v, w, k1, k2, ne⟩
      · rw [e] at k1
        rw [e'] at k2
        exact ⟨f, w, v, k2, k1, Ne.symm ne⟩
      · rw [e] at k1
        rw [e'] at k2
        exact absurd (.inr ⟨f, v, w, k1, k2, ne⟩) ht
  · rintro ⟨f, v, w, h1, h2, ne⟩
    exact .inr ⟨f, v, w, reach_of_one (List.mem_cons_self ..) h1, reach_of_one (by simp) h2, ne⟩
end Q.M
end
section
namespace Q.M
/-! ### F2: what does not clash can be finished -/
theorem clash_add {ns : List Nat} {B : List Rule} (hB : BOk ns B) {S : List Lit} {s : Lit} (hS : ¬ Clash B S) (hs : Alone B s) (h : Clash B (S ++ [s])) : ∃ m, Reach B S m ∧ m.1 = s.1 ∧ m.2 ≠ s.2 := by
  have cl := closed_of hS
  have split : ∀ {l : Lit}, Reach B (S ++ [s]) l → Reach B S l ∨ Reach B [s] l := fun {l} h => by
    obtain ⟨x, m, k⟩ := reach_one h
    rcases List.mem_append.mp m with m | m
    · exact .inl (reach_of_one m k)
    · rw [List.mem_singleton] at m
      rw [m] at k
      exact .inr k
  rcases h with ⟨l, r, h, hr, q⟩ | ⟨f, v, w, h1, h2, ne⟩
  · rcases split h with h | h
    · exact absurd (.inl ⟨l, r, h, hr, q⟩) hS
    · exact absurd (.inl ⟨l, r, h, hr, q⟩) hs
  · rcases split h1 with h1 | h1 <;> rcases split h2 with h2 | h2
    · exact absurd (.inr ⟨f, v, w, h1, h2, ne⟩) hS
    · exact cl.back hB h2 (f, v) h1 rfl ne
    · exact cl.back hB h1 (f, w) h2 rfl (Ne.symm ne)
    · exact absurd (.inr ⟨f, v, w, h1, h2, ne⟩) hs
/-- a value that does not clash alone clashes with others exactly if another value of its field comes from these -/
theorem clash_add_iff {ns : List Nat} {B : List Rule} (hB : BOk ns B) {S : List Lit} {s : Lit} (hS : ¬ Clash B S) (hs : Alone B s) : Clash B (S ++ [s]) ↔ ∃ m, Reach B S m ∧ m.1 = s.1 ∧ m.2 ≠ s.2 := by
  refine ⟨clash_add hB hS hs, fun ⟨m, h1, h2, h3⟩ => .inr ⟨s.1, m.2, s.2, ?_, .base (by simp), h3⟩⟩
  have := h1.mono (B' := B) (S' := S ++ [s]) (fun _ h => h) fun l h => List.mem_append.mpr (.inl h)
  rw [← h2]
  exact this
/-- each field has a value that does not clash alone -/
def Free (ns : List Nat) (B : List Rule) : Prop := ∀ f, f < ns.length → ∃ v, v < vl ns f ∧ Alone B (f, v)
def Keepable (ns : List Nat) (B : List Rule) : Prop := ∃ row, Fill ns row ∧ Keeps B row
def Agrees (S : List Lit) (row : List Nat) : Prop := ∀ l ∈ S, vl row l.1 = l.2
def Finishes (ns : List Nat) (B : List Rule) (S : List Lit) : Prop := ∃ row, Fill ns row ∧ Keeps B row ∧ Agrees S row
theorem keeps_of {ns : List Nat} {B : List Rule} (hB : BOk ns B) {C : Lit → Prop} (hC : Closed B C) (fn : ∀ f v w, C (f, v) → C (f, w) → v = w) {row : List Nat} (tot : ∀ f, f < ns.length → C (f, vl row f)) : Keeps B row := by
  intro r hr
  have ok := hB r hr
  cases r with
  | among f es =>
    have := hC.ok _ _ (tot f ok.1) hr
    simpa [refuses, holds] using this
  | mtch f g ps =>
    have c1 := tot f (by have := ok.1; have := ok.2.1; omega)
    have c2 := tot g ok.2.1
    have n1 := hC.ok _ _ c1 hr
    have n1 : ((f == f || f == g) && (forced (.mtch f g ps) (f, vl row f)).isNone) = false := n1
    cases q : forced (.mtch f g ps) (f, vl row f) with
    | none => rw [q] at n1; simp at n1
    | some l =>
      have c3 := hC.step _ _ _ c1 hr q
      obtain ⟨a, b⟩ := l
      rcases (forced_m ok).mp q with ⟨_, e2, m⟩ | ⟨e1, _, _⟩
      · have e2 : a = g := e2
        subst e2
        have := fn _ _ _ c2 c3
        rw [← this] at m
        simpa [holds] using m
      · have := ok.1
        have e1 : f = g := e1
        omega
  | eith f v g w =>
    have c1 := tot f (by have := ok.1; have := ok.2.1; omega)
    have c2 := tot g ok.2.1
    by_cases e : vl row f = v
    · simp [holds, e]
    · have c3 := hC.step _ _ _ c1 hr ((forced_e ok.1).mpr (.inl ⟨rfl, e, rfl⟩))
      have := fn _ _ _ c2 c3
      simp [holds, this]
theorem vl_map {n f : Nat} (F : Nat → Nat) (h : f < n) : vl ((List.range n).map F) f = F f := by
  unfold vl
  rw [List.getD_eq_getElem?_getD, List.getElem?_map, List.getElem?_range h]
  rfl
theorem grow {ns : List Nat} {B : List Rule} (hB : BOk ns B) (hf : Free ns B) {S : List Lit} (hS : ∀ l ∈ S, LOk ns l) (hc : ¬ Clash B S) : ∀ n, n ≤ ns.length → ∃ S' : List Lit, (∀ l ∈ S, l ∈ S') ∧ (∀ l ∈ S', LOk ns l) ∧ ¬ Clash B S' ∧ ∀ f, f < n → ∃ v, Reach B S' (f, v)
  | 0, _ => ⟨S, fun _ h => h, hS, hc, fun f h => by omega⟩
  | n + 1, hn => by
    obtain ⟨S', h1, h2, h3, h4⟩ := grow hB hf hS hc n (by omega)
    by_cases q : ∃ v, Reach B S' (n, v)
    · exact ⟨S', h1, h2, h3, fun f hf => by
        by_cases e : f = n
        · subst e; exact q
        · exact h4 f (by omega)⟩
    · obtain ⟨v, hv, ha⟩ := hf n (by omega)
      refine ⟨S' ++ [(n, v)], fun l h => List.mem_append.mpr (.inl (h1 l h)), fun l h => ?_, fun c => ?_, fun f hf => ?_⟩
      · rcases List.mem_append.mp h with h | h
        · exact h2 l h
        · rw [List.mem_singleton] at h
          subst h
          exact hv
      · obtain ⟨m, r, e, _⟩ := clash_add hB h3 ha c
        exact q ⟨m.2, by rw [← show m.1 = n from e]; exact r⟩
      · by_cases e : f = n
        · subst e; exact ⟨v, .base (by simp)⟩
        · obtain ⟨w, r⟩ := h4 f (by omega)
          exact ⟨w, r.mono (fun _ h => h) fun l h => List.mem_append.mpr (.inl h)⟩
theorem finish_of {ns : List Nat} {B : List Rule} (hB : BOk ns B) (hf : Free ns B) {S : List Lit} (hS : ∀ l ∈ S, LOk ns l) (hc : ¬ Clash B S) : Finishes ns B S := by
  obtain ⟨S', h1, h2, h3, h4⟩ := grow hB hf hS hc ns.length (Nat.le_refl _)
  have : ∃ F : Nat → Nat, ∀ f, f < ns.length → Reach B S' (f, F f) := by
    refine ⟨fun f => if h : f < ns.length then (h4 f h).choose else 0, fun f h => ?_⟩
    dsimp only
    rw [dif_pos h]
    exact (h4 f h).choose_spec
  obtain ⟨F, hF⟩ := this
  have fn : ∀ f v w, Reach B S' (f, v) → Reach B S' (f, w) → v = w := fun f v w a b => by
    by_cases e : v = w
    · exact e
    · exact absurd (.inr ⟨f, v, w, a, b, e⟩) h3
  have tot : ∀ f, f < ns.length → Reach B S' (f, vl ((List.range ns.length).map F) f) := fun f h => by
    rw [vl_map F h]
    exact hF f h
  refine ⟨(List.range ns.length).map F, ⟨by simp, fun f h => ?_⟩, keeps_of hB (closed_of h3) fn tot, fun l hl => ?_⟩
  · exact reach_ok hB h2 (tot f h)
  · have := (hS l hl).lt
    exact fn l.1 _ _ (tot _ this) (.base (h1 l hl))
theorem free_of {ns : List Nat} {B : List Rule} (hB : BOk ns B) (h : Keepable ns B) : Free ns B := by
  obtain ⟨row, h1, h2⟩ := h
  exact fun f hf => ⟨vl row f, h1.2 f hf, no_clash hB h2 fun l hl => by
    rw [List.mem_singleton] at hl
    subst hl
    rfl⟩
theorem keepable_iff {ns : List Nat} {B : List Rule} (hB : BOk ns B) : Keepable ns B ↔ Free ns B := by
  refine ⟨free_of hB, fun h => ?_⟩
  obtain ⟨row, h1, h2, _⟩ := finish_of hB h (S := []) (fun _ h => (by cases h)) (by
    rintro (⟨l, r, h, _⟩ | ⟨f, v, w, h, _⟩)
    · obtain ⟨_, m, _⟩ := reach_one h
      cases m
    · obtain ⟨_, m, _⟩ := reach_one h
      cases m)
  exact ⟨row, h1, h2⟩
theorem finishes_iff {ns : List Nat} {B : List Rule} (hB : BOk ns B) (hk : Keepable ns B) {S : List Lit} (hS : ∀ l ∈ S, LOk ns l) : Finishes ns B S ↔ ¬ Clash B S :=
  ⟨fun ⟨_, _, h2, h3⟩ => no_clash hB h2 h3, finish_of hB (free_of hB hk) hS⟩
/-! ### F1: the mix -/
def mixAt (a b c : List Nat) (f : Nat) : Nat := if vl a f = vl b f then vl a f else vl c f
def mix (a b c : List Nat) : List Nat := (List.range a.length).map (mixAt a b c)
theorem holds_congr {ns : List Nat} {r : Rule} (h : ROk ns r) {row row' : List Nat} (e : ∀ f, f < ns.length → vl row f = vl row' f) : holds r row = holds r row' := by
  cases r with
  | among f es => simp [holds, e f h.1]
  | mtch f g ps => simp [holds, e f (by have := h.1; have := h.2.1; omega), e g h.2.1]
  | eith f v g w => simp [holds, e f (by have := h.1; have := h.2.1; omega), e g h.2.1]
theorem mix_holds {ns : List Nat} {r : Rule} (h : ROk ns r) {a b c : List Nat} (la : a.length = ns.length) (ha : holds r a = true) (hb : holds r b = true) (hc : holds r c = true) : holds r (mix a b c) = true := by
  have at_ : ∀ f, f < ns.length → vl (mix a b c) f = mixAt a b c f := fun f hf => by
    unfold mix
    exact vl_map _ (by omega)
  cases r with
  | among f es =>
    simp only [holds, List.contains_iff_mem] at *
    rw [at_ f h.1]
    unfold mixAt
    split
    · exact ha
    · exact hc
  | mtch f g ps =>
    simp only [holds, List.contains_iff_mem] at *
    rw [at_ f (by have := h.1; have := h.2.1; omega), at_ g h.2.1]
    unfold mixAt
    by_cases e1 : vl a f = vl b f
    · have := uniq1 h.2.2.1 ha hb e1
      have e2 : vl a g = vl b g := congrArg (·.2) this
      rw [if_pos e1, if_pos e2]
      exact ha
    · by_cases e2 : vl a g = vl b g
      · have := uniq2 h.2.2.2.1 ha hb e2
        exact absurd (congrArg (·.1) this) e1
      · rw [if_neg e1, if_neg e2]
        exact hc
  | eith f v g w =>
    simp only [holds, Bool.or_eq_true, beq_iff_eq] at *
    rw [at_ f (by have := h.1; have := h.2.1; omega), at_ g h.2.1]
    unfold mixAt
    by_cases e1 : vl a f = vl b f <;> by_cases e2 : vl a g = vl b g
    · rw [if_pos e1, if_pos e2]
      exact ha
    · rw [if_pos e1, if_neg e2]
      rcases ha with k | k
      · exact .inl k
      · rcases hb with k2 | k2
        · exact .inl (e1.trans k2)
        · exact absurd (k.trans k2.symm) e2
    · rw [if_neg e1, if_pos e2]
      rcases ha with k | k
      · rcases hb with k2 | k2
        · exact absurd (k.trans k2.symm) e1
        · exact .inr (e2.trans k2)
      · exact .inr k
    · rw [if_neg e1, if_neg e2]
      exact hc
theorem mix_fill {ns a b c : List Nat} (ha : Fill ns a) (hc : Fill ns c) : Fill ns (mix a b c) := by
  refine ⟨by simp [mix, ha.1], fun f hf => ?_⟩
  unfold mix
  rw [vl_map _ (by rw [ha.1]; exact hf)]
  unfold mixAt
  split
  · exact ha.2 f hf
  · exact hc.2 f hf
end Q.M
end
section
namespace Q
def p_is_between : Fn := ⟨3, 3, [], .cons (.ret (.and (.isi (.var 0) .int) (.and (.not (.isi (.var 0) .bool)) (.chain .LtE .Lt (.var 1) (.var 0) (.var 2))))) .nil⟩
def p_is_sheet : Fn := ⟨2, 1, [], .cons (.ife (.or (.not (.e (.isi (.var 0) .tuple))) (.not (.e (.chain .LtE .LtE (.c (.int 1)) (.blt .len (.cons (.var 0) .nil)) (.c (.int 8)))))) (.cons (.ret (.c (.bl false))) .nil) .nil) (.cons (.ret (.blt .all (.cons (.lc [1] (.v 1) (.seq (.var 0)) .tt (.call "is_between" (.cons (.var 1) (.cons (.c (.int 1)) (.cons (.c (.int 6)) .nil))))) .nil))) .nil)⟩
def p_is_rising : Fn := ⟨2, 1, [], .cons (.ret (.blt .all (.cons (.lc [1] (.v 1) (.rng1 (.bin .Sub (.blt .len (.cons (.var 0) .nil)) (.c (.int 1)))) .tt (.cmp .Lt (.idx (.var 0) (.var 1)) (.idx (.var 0) (.bin .Add (.var 1) (.c (.int 1)))))) .nil))) .nil⟩
def p_are_entries : Fn := ⟨3, 2, [], .cons (.ife (.or (.not (.e (.isi (.var 1) .tuple))) (.not (.e (.blt .all (.cons (.lc [2] (.v 2) (.seq (.var 1)) .tt (.call "is_between" (.cons (.var 2) (.cons (.c (.int 0)) (.cons (.var 0) .nil))))) .nil))))) (.cons (.ret (.c (.bl false))) .nil) .nil) (.cons (.ret (.call "is_rising" (.cons (.var 1) .nil))) .nil)⟩
def p_is_pair : Fn := ⟨3, 3, [], .cons (.ife (.or (.not (.e (.isi (.var 2) .tuple))) (.e (.cmp .NotEq (.blt .len (.cons (.var 2) .nil)) (.c (.int 2))))) (.cons (.ret (.c (.bl false))) .nil) .nil) (.cons (.ret (.and (.call "is_between" (.cons (.idx (.var 2) (.c (.int 0))) (.cons (.c (.int 0)) (.cons (.var 0) .nil)))) (.call "is_between" (.cons (.idx (.var 2) (.c (.int 1))) (.cons (.c (.int 0)) (.cons (.var 1) .nil)))))) .nil)⟩
def p_are_partners : Fn := ⟨4, 3, [], .cons (.ife (.or (.not (.e (.isi (.var 2) .tuple))) (.not (.e (.blt .all (.cons (.lc [3] (.v 3) (.seq (.var 2)) .tt (.call "is_pair" (.cons (.var 0) (.cons (.var 1) (.cons (.var 3) .nil))))) .nil))))) (.cons (.ret (.c (.bl false))) .nil) .nil) (.cons (.ife (.e (.cmp .NotEq (.blt .lenSet (.cons (.lc [3] (.v 3) (.seq (.var 2)) .tt (.idx (.var 3) (.c (.int 1)))) .nil)) (.blt .len (.cons (.var 2) .nil)))) (.cons (.ret (.c (.bl false))) .nil) .nil) (.cons (.ret (.call "is_rising" (.cons (.lc [3] (.v 3) (.seq (.var 2)) .tt (.idx (.var 3) (.c (.int 0)))) .nil))) .nil))⟩
def p_are_two_fields : Fn := ⟨3, 3, [], .cons (.ret (.and (.call "is_between" (.cons (.var 1) (.cons (.c (.int 0)) (.cons (.blt .len (.cons (.var 0) .nil)) .nil)))) (.call "is_between" (.cons (.var 2) (.cons (.bin .Add (.var 1) (.c (.int 1))) (.cons (.blt .len (.cons (.var 0) .nil)) .nil)))))) .nil⟩
def p_is_rule_of : Fn := ⟨2, 2, [], .cons (.ife (.or (.not (.e (.isi (.var 1) .tuple))) (.or (.e (.cmp .Lt (.blt .len (.cons (.var 1) .nil)) (.c (.int 3)))) (.not (.e (.isi (.idx (.var 1) (.c (.int 0))) .str))))) (.cons (.ret (.c (.bl false))) .nil) .nil) (.cons (.ife (.and (.e (.cmp .Eq (.idx (.var 1) (.c (.int 0))) (.c (.str "among")))) (.e (.cmp .Eq (.blt .len (.cons (.var 1) .nil)) (.c (.int 3))))) (.cons (.ret (.and (.call "is_between" (.cons (.idx (.var 1) (.c (.int 1))) (.cons (.c (.int 0)) (.cons (.blt .len (.cons (.var 0) .nil)) .nil)))) (.call "are_entries" (.cons (.idx (.var 0) (.idx (.var 1) (.c (.int 1)))) (.cons (.idx (.var 1) (.c (.int 2))) .nil))))) .nil) .nil) (.cons (.ife (.and (.e (.cmp .Eq (.idx (.var 1) (.c (.int 0))) (.c (.str "match")))) (.and (.e (.cmp .Eq (.blt .len (.cons (.var 1) .nil)) (.c (.int 4)))) (.e (.call "are_two_fields" (.cons (.var 0) (.cons (.idx (.var 1) (.c (.int 1))) (.cons (.idx (.var 1) (.c (.int 2))) .nil))))))) (.cons (.ret (.call "are_partners" (.cons (.idx (.var 0) (.idx (.var 1) (.c (.int 1)))) (.cons (.idx (.var 0) (.idx (.var 1) (.c (.int 2)))) (.cons (.idx (.var 1) (.c (.int 3))) .nil))))) .nil) .nil) (.cons (.ife (.and (.e (.cmp .Eq (.idx (.var 1) (.c (.int 0))) (.c (.str "either")))) (.and (.e (.cmp .Eq (.blt .len (.cons (.var 1) .nil)) (.c (.int 5)))) (.e (.call "are_two_fields" (.cons (.var 0) (.cons (.idx (.var 1) (.c (.int 1))) (.cons (.idx (.var 1) (.c (.int 3))) .nil))))))) (.cons (.ret (.and (.call "is_between" (.cons (.idx (.var 1) (.c (.int 2))) (.cons (.c (.int 0)) (.cons (.idx (.var 0) (.idx (.var 1) (.c (.int 1)))) .nil)))) (.call "is_between" (.cons (.idx (.var 1) (.c (.int 4))) (.cons (.c (.int 0)) (.cons (.idx (.var 0) (.idx (.var 1) (.c (.int 3)))) .nil)))))) .nil) .nil) (.cons (.ret (.c (.bl false))) .nil))))⟩
def p_need_sheet : Fn := ⟨1, 1, [], .cons (.ife (.not (.e (.call "is_sheet" (.cons (.var 0) .nil)))) (.cons .bad .nil) .nil) .nil⟩
def p_is_rule : Fn := ⟨2, 2, [], .cons (.ex (.call "need_sheet" (.cons (.var 0) .nil))) (.cons (.ret (.call "is_rule_of" (.cons (.var 0) (.cons (.var 1) .nil)))) .nil)⟩
def p_is_book_of : Fn := ⟨3, 2, [], .cons (.ret (.and (.isi (.var 1) .tuple) (.blt .all (.cons (.lc [2] (.v 2) (.seq (.var 1)) .tt (.call "is_rule_of" (.cons (.var 0) (.cons (.var 2) .nil)))) .nil)))) .nil⟩
def p_is_part_of : Fn := ⟨3, 2, [], .cons (.ife (.or (.not (.e (.isi (.var 1) .tuple))) (.e (.cmp .NotEq (.blt .len (.cons (.var 1) .nil)) (.blt .len (.cons (.var 0) .nil))))) (.cons (.ret (.c (.bl false))) .nil) .nil) (.cons (.ret (.blt .all (.cons (.lc [2] (.v 2) (.rng1 (.blt .len (.cons (.var 0) .nil))) .tt (.or (.cmp .Is (.idx (.var 1) (.var 2)) (.c .non)) (.call "is_between" (.cons (.idx (.var 1) (.var 2)) (.cons (.c (.int 0)) (.cons (.idx (.var 0) (.var 2)) .nil)))))) .nil))) .nil)⟩
def p_is_filling_of : Fn := ⟨3, 2, [], .cons (.ret (.and (.call "is_part_of" (.cons (.var 0) (.cons (.var 1) .nil))) (.blt .all (.cons (.lc [2] (.v 2) (.seq (.var 1)) .tt (.cmp .IsNot (.var 2) (.c .non))) .nil)))) .nil⟩
def p_is_book : Fn := ⟨2, 2, [], .cons (.ex (.call "need_sheet" (.cons (.var 0) .nil))) (.cons (.ret (.call "is_book_of" (.cons (.var 0) (.cons (.var 1) .nil)))) .nil)⟩
def p_is_part : Fn := ⟨2, 2, [], .cons (.ex (.call "need_sheet" (.cons (.var 0) .nil))) (.cons (.ret (.call "is_part_of" (.cons (.var 0) (.cons (.var 1) .nil)))) .nil)⟩
def p_is_filling : Fn := ⟨2, 2, [], .cons (.ex (.call "need_sheet" (.cons (.var 0) .nil))) (.cons (.ret (.call "is_filling_of" (.cons (.var 0) (.cons (.var 1) .nil)))) .nil)⟩
def p_need_rule : Fn := ⟨2, 2, [], .cons (.ife (.not (.e (.call "is_rule_of" (.cons (.var 0) (.cons (.var 1) .nil))))) (.cons .bad .nil) .nil) .nil⟩
def p_need_book : Fn := ⟨2, 2, [], .cons (.ife (.not (.e (.call "is_book_of" (.cons (.var 0) (.cons (.var 1) .nil))))) (.cons .bad .nil) .nil) .nil⟩
def p_need_filling : Fn := ⟨2, 2, [], .cons (.ife (.not (.e (.call "is_filling_of" (.cons (.var 0) (.cons (.var 1) .nil))))) (.cons .bad .nil) .nil) .nil⟩
def p_rule_holds : Fn := ⟨2, 2, [], .cons (.ife (.e (.cmp .Eq (.idx (.var 0) (.c (.int 0))) (.c (.str "among")))) (.cons (.ret (.cmp .In (.idx (.var 1) (.idx (.var 0) (.c (.int 1)))) (.idx (.var 0) (.c (.int 2))))) .nil) .nil) (.cons (.ife (.e (.cmp .Eq (.idx (.var 0) (.c (.int 0))) (.c (.str "match")))) (.cons (.ret (.cmp .In (.tup (.cons (.idx (.var 1) (.idx (.var 0) (.c (.int 1)))) (.cons (.idx (.var 1) (.idx (.var 0) (.c (.int 2)))) .nil))) (.idx (.var 0) (.c (.int 3))))) .nil) .nil) (.cons (.ret (.or (.cmp .Eq (.idx (.var 1) (.idx (.var 0) (.c (.int 1)))) (.idx (.var 0) (.c (.int 2)))) (.cmp .Eq (.idx (.var 1) (.idx (.var 0) (.c (.int 3)))) (.idx (.var 0) (.c (.int 4)))))) .nil))⟩
def p_holds : Fn := ⟨3, 3, [], .cons (.ex (.call "need_sheet" (.cons (.var 0) .nil))) (.cons (.ex (.call "need_rule" (.cons (.var 0) (.cons (.var 1) .nil)))) (.cons (.ex (.call "need_filling" (.cons (.var 0) (.cons (.var 2) .nil)))) (.cons (.ret (.call "rule_holds" (.cons (.var 1) (.cons (.var 2) .nil)))) .nil)))⟩
def p_broken : Fn := ⟨4, 3, [], .cons (.ex (.call "need_sheet" (.cons (.var 0) .nil))) (.cons (.ex (.call "need_book" (.cons (.var 0) (.cons (.var 1) .nil)))) (.cons (.ex (.call "need_filling" (.cons (.var 0) (.cons (.var 2) .nil)))) (.cons (.ret (.lc [3] (.v 3) (.rng1 (.blt .len (.cons (.var 1) .nil))) (.not (.e (.call "rule_holds" (.cons (.idx (.var 1) (.var 3)) (.cons (.var 2) .nil))))) (.var 3))) .nil)))⟩
def p_need_part : Fn := ⟨2, 2, [], .cons (.ife (.not (.e (.call "is_part_of" (.cons (.var 0) (.cons (.var 1) .nil))))) (.cons .bad .nil) .nil) .nil⟩
def p_agrees : Fn := ⟨4, 3, [], .cons (.ex (.call "need_sheet" (.cons (.var 0) .nil))) (.cons (.ex (.call "need_filling" (.cons (.var 0) (.cons (.var 1) .nil)))) (.cons (.ex (.call "need_part" (.cons (.var 0) (.cons (.var 2) .nil)))) (.cons (.ret (.blt .all (.cons (.lc [3] (.v 3) (.rng1 (.blt .len (.cons (.var 2) .nil))) .tt (.or (.cmp .Is (.idx (.var 2) (.var 3)) (.c .non)) (.cmp .Eq (.idx (.var 2) (.var 3)) (.idx (.var 1) (.var 3))))) .nil))) .nil)))⟩
def p_mixed : Fn := ⟨5, 4, [], .cons (.ex (.call "need_sheet" (.cons (.var 0) .nil))) (.cons (.ex (.call "need_filling" (.cons (.var 0) (.cons (.var 1) .nil)))) (.cons (.ex (.call "need_filling" (.cons (.var 0) (.cons (.var 2) .nil)))) (.cons (.ex (.call "need_filling" (.cons (.var 0) (.cons (.var 3) .nil)))) (.cons (.ret (.blt .tuple (.cons (.lc [4] (.v 4) (.rng1 (.blt .len (.cons (.var 0) .nil))) .tt (.ifx (.e (.cmp .Eq (.idx (.var 1) (.var 4)) (.idx (.var 2) (.var 4)))) (.idx (.var 1) (.var 4)) (.idx (.var 3) (.var 4)))) .nil))) .nil))))⟩
def p_need_field : Fn := ⟨2, 2, [], .cons (.ife (.not (.e (.call "is_between" (.cons (.var 1) (.cons (.c (.int 0)) (.cons (.blt .len (.cons (.var 0) .nil)) .nil)))))) (.cons .bad .nil) .nil) .nil⟩
def p_need_entry : Fn := ⟨3, 3, [], .cons (.ife (.not (.e (.call "is_between" (.cons (.var 2) (.cons (.c (.int 0)) (.cons (.idx (.var 0) (.var 1)) .nil)))))) (.cons .bad .nil) .nil) .nil⟩
def p_need_other : Fn := ⟨3, 3, [], .cons (.ife (.or (.not (.e (.call "is_between" (.cons (.var 2) (.cons (.c (.int 0)) (.cons (.blt .len (.cons (.var 0) .nil)) .nil)))))) (.e (.cmp .Eq (.var 2) (.var 1)))) (.cons .bad .nil) .nil) .nil⟩
end Q
end
section
set_option maxHeartbeats 4000000
namespace Q
open PySem Q.M
class Fc (T : Tbl) (f : Str) (fn : Fn) : Prop where
  at_ : T f = some fn
@[simp] theorem nat_eq {a b : Nat} : ((a : Int) = (b : Int)) ↔ a = b := Int.ofNat_inj
/-! ### the values -/
def eL (l : List Nat) : PV := .tup (l.map fun (n : Nat) => .int n)
def eO : Option Nat → PV
  | none => .non
  | some n => .int n
@[simp] theorem eO_n : eO none = .non := rfl
@[simp] theorem eO_s {n : Nat} : eO (some n) = .int n := rfl
def eT (l : List (Option Nat)) : PV := .tup (l.map eO)
def eP (p : Nat × Nat) : PV := .tup [.int p.1, .int p.2]
def ePs (l : List (Nat × Nat)) : PV := .tup (l.map eP)
def eR : Rule → PV
  | .among f es => .tup [.str "among", .int f, eL es]
  | .mtch f g ps => .tup [.str "match", .int f, .int g, ePs ps]
  | .eith f v g w => .tup [.str "either", .int f, .int v, .int g, .int w]
def eB (B : List Rule) : PV := .tup (B.map eR)
structure Sz (ns : List Nat) : Prop where
  lo : 1 ≤ ns.length
  hi : ns.length ≤ 8
  at_ : ∀ f, f < ns.length → 1 ≤ vl ns f ∧ vl ns f ≤ 5
theorem vl_at {l : List Nat} {i : Nat} (h : i < l.length) : l[i]? = some (vl l i) := by
  unfold vl
  rw [List.getD_eq_getElem?_getD, List.getElem?_eq_getElem h]
  rfl
theorem vl_mem {l : List Nat} {i : Nat} (h : i < l.length) : vl l i ∈ l := List.mem_of_getElem? (vl_at h)
theorem mem_vl {l : List Nat} {a : Nat} (h : a ∈ l) : ∃ i, i < l.length ∧ vl l i = a := by
  obtain ⟨i, hi, e⟩ := List.getElem_of_mem h
  refine ⟨i, hi, ?_⟩
  have h2 := vl_at hi
  rw [List.getElem?_eq_getElem hi, e] at h2
  exact (Option.some.inj h2).symm
theorem vl_out {l : List Nat} {i : Nat} (h : ¬ i < l.length) : vl l i = 0 := by
  unfold vl
  rw [List.getD_eq_getElem?_getD, List.getElem?_eq_none (by omega)]
  rfl
theorem vl_lt {l : List Nat} {i v : Nat} (h : v < vl l i) : i < l.length := by
  by_cases q : i < l.length
  · exact q
  · rw [vl_out q] at h
    omega
theorem Sz.le5 {ns : List Nat} (h : Sz ns) (f : Nat) : vl ns f ≤ 5 := by
  by_cases q : f < ns.length
  · exact (h.at_ f q).2
  · rw [vl_out q]
    omega
def ol (p : List (Option Nat)) (f : Nat) : Option Nat := (p[f]?).join
theorem ol_at {l : List (Option Nat)} {i : Nat} (h : i < l.length) : l[i]? = some (ol l i) := by
  unfold ol
  rw [List.getElem?_eq_getElem h]
  rfl
theorem ol_out {l : List (Option Nat)} {i : Nat} (h : ¬ i < l.length) : ol l i = none := by
  unfold ol
  rw [List.getElem?_eq_none (by omega)]
  rfl
theorem ol_lt {l : List (Option Nat)} {i v : Nat} (h : ol l i = some v) : i < l.length := by
  by_cases q : i < l.length
  · exact q
  · rw [ol_out q] at h
    cases h
structure Pt (ns : List Nat) (p : List (Option Nat)) : Prop where
  len : p.length = ns.length
  ok : ∀ f v, ol p f = some v → v < vl ns f
theorem Fill.pt {ns row : List Nat} (h : Fill ns row) : Pt ns (row.map some) := by
  refine ⟨by rw [List.length_map]; exact h.1, fun f v e => ?_⟩
  have hl := ol_lt e
  rw [List.length_map] at hl
  have := vl_at hl
  unfold ol at e
  rw [List.getElem?_map, this] at e
  cases e
  exact h.2 f (by rw [← h.1]; exact hl)
theorem eT_some (row : List Nat) : eT (row.map some) = eL row := by
  unfold eT eL
  rw [List.map_map]
  rfl
/-! reading them -/
@[simp] theorem len_L {l : List Nat} : bltO .len [.v (eL l)] = some (.v (.int l.length)) := by simp [eL]
@[simp] theorem len_T {l : List (Option Nat)} : bltO .len [.v (eT l)] = some (.v (.int l.length)) := by simp [eT]
@[simp] theorem len_B {l : List Rule} : bltO .len [.v (eB l)] = some (.v (.int l.length)) := by simp [eB]
@[simp] theorem len_Ps {l : List (Nat × Nat)} : bltO .len [.v (ePs l)] = some (.v (.int l.length)) := by simp [ePs]
@[simp] theorem it_L {l : List Nat} : itemsOf (eL l) = some (l.map fun (n : Nat) => .int n) := rfl
@[simp] theorem it_T {l : List (Option Nat)} : itemsOf (eT l) = some (l.map eO) := rfl
@[simp] theorem it_B {l : List Rule} : itemsOf (eB l) = some (l.map eR) := rfl
@[simp] theorem it_Ps {l : List (Nat × Nat)} : itemsOf (ePs l) = some (l.map eP) := rfl
@[simp] theorem isi_L {l : List Nat} : isiO (.v (eL l)) .tuple = some true := rfl
@[simp] theorem isi_T {l : List (Option Nat)} : isiO (.v (eT l)) .tuple = some true := rfl
@[simp] theorem isi_B {l : List Rule} : isiO (.v (eB l)) .tuple = some true := rfl
@[simp] theorem isi_P {l : Nat × Nat} : isiO (.v (eP l)) .tuple = some true := rfl
@[simp] theorem isi_Ps {l : List (Nat × Nat)} : isiO (.v (ePs l)) .tuple = some true := rfl
@[simp] theorem isi_R {r : Rule} : isiO (.v (eR r)) .tuple = some true := by cases r <;> rfl
theorem ix_L {l : List Nat} {i : Nat} (h : i < l.length) : ixO (.v (eL l)) (.v (.int i)) = some (.int (vl l i)) := ix_of (by rw [List.getElem?_map, vl_at h]; rfl)
theorem ix_T {l : List (Option Nat)} {i : Nat} (h : i < l.length) : ixO (.v (eT l)) (.v (.int i)) = some (eO (ol l i)) := ix_of (by rw [List.getElem?_map, ol_at h]; rfl)
theorem ix_B {l : List Rule} {i : Nat} {r : Rule} (h : l[i]? = some r) : ixO (.v (eB l)) (.v (.int i)) = some (eR r) := ix_of (by rw [List.getElem?_map, h]; rfl)
theorem ix_Ps {l : List (Nat × Nat)} {i : Nat} {r : Nat × Nat} (h : l[i]? = some r) : ixO (.v (ePs l)) (.v (.int i)) = some (eP r) := ix_of (by rw [List.getElem?_map, h]; rfl)
@[simp] theorem ix_P0 {p : Nat × Nat} : ixO (.v (eP p)) (.v (.int 0)) = some (.int p.1) := by simp [eP]
@[simp] theorem ix_P1 {p : Nat × Nat} : ixO (.v (eP p)) (.v (.int 1)) = some (.int p.2) := by simp [eP]
/-! the words of rules -/
@[simp] theorem st_1 : (("among" : Str) == ("match" : Str)) = false := by decide +kernel
@[simp] theorem st_2 : (("among" : Str) == ("either" : Str)) = false := by decide +kernel
@[simp] theorem st_3 : (("match" : Str) == ("among" : Str)) = false := by decide +kernel
@[simp] theorem st_4 : (("match" : Str) == ("either" : Str)) = false := by decide +kernel
@[simp] theorem st_5 : (("either" : Str) == ("among" : Str)) = false := by decide +kernel
@[simp] theorem st_6 : (("either" : Str) == ("match" : Str)) = false := by decide +kernel
/-! ### is_between, is_sheet .. -/
@[simp] theorem is_between_eq {T : Tbl} [Fc T "is_between" p_is_between] {n : Nat} {g : List GI} {i lo hi : Int} : callN T (n + 1) "is_between" [.v (.int i), .v (.int lo), .v (.int hi)] g = .ret (.v (.bl (decide (lo ≤ i) && decide (i < hi)))) [.v (.int i), .v (.int lo), .v (.int hi)] g := by
  refine eq_of (run_in (Fc.at_ : T "is_between" = some p_is_between) rfl rfl ?_)
  simp
  by_cases h : lo ≤ i <;> simp [h]
theorem is_sheet_eq {T : Tbl} [Fc T "is_sheet" p_is_sheet] [Fc T "is_between" p_is_between] {n : Nat} {g : List GI} {ns : List Nat} (hs : Sz ns) : callN T (n + 2) "is_sheet" [.v (eL ns)] g = .ret (.v (.bl true)) [.v (eL ns)] g := by
  refine eq_of (run_in (Fc.at_ : T "is_sheet" = some p_is_sheet) rfl rfl ?_)
  have h1 := hs.lo
  have h2 := hs.hi
  simp [show (1 : Int) ≤ ns.length by omega, show (ns.length : Int) ≤ 8 by omega]
  refine lc_map (fun _ => .bl true) (fun a ha => lcF_ok rfl ?_) ?_
  · obtain ⟨i, hi, rfl⟩ := mem_vl ha
    have := hs.at_ i hi
    simp [show (1 : Int) ≤ vl ns i by omega, show (vl ns i : Int) < 6 by omega]
  · simp [show ns.length ≤ line by unfold line; omega]

theorem r_i {i : Int} (h1 : -9 ≤ i) (h2 : i ≤ 16777216) : rngO (.v (.int i)) = some ((List.range i.toNat).map fun (i : Nat) => .int i) := by
  unfold rngO
  dsimp only
  rw [if_pos ⟨by unfold big; omega, by unfold line; omega⟩, ranged_0]
theorem ix_L1 {l : List Nat} {i : Nat} (h : i + 1 < l.length) : ixO (.v (eL l)) (.v (.int ((i : Int) + 1))) = some (.int (vl l (i + 1))) := by
  have := ix_L h
  rwa [Int.natCast_add] at this
abbrev nL (l : List Nat) : List PV := l.map fun (n : Nat) => .int n
theorem ix_N {l : List Nat} {i : Nat} (h : i < l.length) : ixO (.d (.lst (nL l))) (.v (.int i)) = some (.int (vl l i)) := ix_ofl (by rw [List.getElem?_map, vl_at h]; rfl)
theorem ix_N1 {l : List Nat} {i : Nat} (h : i + 1 < l.length) : ixO (.d (.lst (nL l))) (.v (.int ((i : Int) + 1))) = some (.int (vl l (i + 1))) := by
  have := ix_N h
  rwa [Int.natCast_add] at this
theorem asc_vl {l : List Nat} (h : l.Pairwise (· < ·)) {i : Nat} (hi : i + 1 < l.length) : vl l i < vl l (i + 1) := by
  have := List.pairwise_iff_getElem.mp h i (i + 1) (by omega) hi (by omega)
  have e1 := vl_at (l := l) (i := i) (by omega)
  have e2 := vl_at hi
  rw [List.getElem?_eq_getElem (by omega)] at e1
  rw [List.getElem?_eq_getElem hi] at e2
  have e1 := Option.some.inj e1
  have e2 := Option.some.inj e2
  rwa [e1, e2] at this
theorem is_rising_L {T : Tbl} [Fc T "is_rising" p_is_rising] {n : Nat} {g : List GI} {l : List Nat} (h : l.Pairwise (· < ·)) (hl : l.length ≤ 1000) : callN T (n + 1) "is_rising" [.v (eL l)] g = .ret (.v (.bl true)) [.v (eL l)] g := by
  refine eq_of (run_in (Fc.at_ : T "is_rising" = some p_is_rising) rfl rfl ?_)
  simp [r_i (i := (l.length : Int) - 1) (by omega) (by omega)]
  refine lc_map (fun _ => .bl true) (fun i hi => lcF_ok rfl ?_) ?_
  · have hi : i + 1 < l.length := by
      have := List.mem_range.mp hi
      omega
    simp [ix_L (l := l) (i := i) (by omega), ix_L1 hi, asc_vl h hi]
  · simp [show l.length ≤ line + 1 by unfold line; omega]
theorem is_rising_N {T : Tbl} [Fc T "is_rising" p_is_rising] {n : Nat} {g : List GI} {l : List Nat} (h : l.Pairwise (· < ·)) (hl : l.length ≤ 1000) : callN T (n + 1) "is_rising" [.own (.lst (nL l))] g = .ret (.v (.bl true)) [.own (.lst (nL l))] g := by
  refine eq_of (run_in (Fc.at_ : T "is_rising" = some p_is_rising) rfl rfl ?_)
  simp [r_i (i := (l.length : Int) - 1) (by omega) (by omega)]
  refine lc_map (fun _ => .bl true) (fun i hi => lcF_ok rfl ?_) ?_
  · have hi : i + 1 < l.length := by
      have := List.mem_range.mp hi
      omega
    simp [ix_N (l := l) (i := i) (by omega), ix_N1 hi, asc_vl h hi]
  · simp [show l.length ≤ line + 1 by unfold line; omega]
theorem are_entries_eq {T : Tbl} [Fc T "are_entries" p_are_entries] [Fc T "is_between" p_is_between] [Fc T "is_rising" p_is_rising] {n : Nat} {g : List GI} {l : List Nat} {s : Nat} (h : l.Pairwise (· < ·)) (hs : ∀ e ∈ l, e < s) (hl : l.length ≤ 1000) : callN T (n + 2) "are_entries" [.v (.int s), .v (eL l)] g = .ret (.v (.bl true)) [.v (.int s), .v (eL l)] g := by
  refine eq_of (run_in (Fc.at_ : T "are_entries" = some p_are_entries) rfl rfl ?_)
  simp
  refine lc_map (fun _ => .bl true) (fun i hi => lcF_ok rfl ?_) ?_
  · simp [hs i hi]
  · simp [show l.length ≤ line by unfold line; omega, is_rising_L h hl]
theorem is_pair_eq {T : Tbl} [Fc T "is_pair" p_is_pair] [Fc T "is_between" p_is_between] {n : Nat} {g : List GI} {s t : Nat} {p : Nat × Nat} (h1 : p.1 < s) (h2 : p.2 < t) : callN T (n + 2) "is_pair" [.v (.int s), .v (.int t), .v (eP p)] g = .ret (.v (.bl true)) [.v (.int s), .v (.int t), .v (eP p)] g := by
  refine eq_of (run_in (Fc.at_ : T "is_pair" = some p_is_pair) rfl rfl ?_)
  have e : bltO .len [.v (eP p)] = some (.v (.int 2)) := rfl
  simp [e, h1, h2]
theorem ints_nat (l : List Nat) : intsOf (nL l) = some (l.map fun (n : Nat) => (n : Int)) := by
  induction l with
  | nil => rfl
  | cons a r ih => rw [nL, List.map_cons, intsOf, ih]; rfl
theorem dedup_of {l : List Int} (h : l.Nodup) : dedup l = l := by
  induction l with
  | nil => rfl
  | cons a r ih =>
    obtain ⟨h1, h2⟩ := List.nodup_cons.mp h
    rw [dedup, ih h2]
    congr 1
    rw [List.filter_eq_self]
    intro x hx
    simp
    rintro rfl
    exact h1 hx
theorem nodup_cast {l : List Nat} (h : l.Nodup) : (l.map fun (n : Nat) => (n : Int)).Nodup := List.Pairwise.map _ (fun a b n e => n (by exact Int.ofNat_inj.mp e)) h
theorem lenSet_nodup {l : List Nat} (h : l.Nodup) (h64 : l.length < 64) : bltO .lenSet [.d (.lst (nL l))] = some (.v (.int l.length)) := by
  simp only [bltO, lst_d, Option.bind_some, ints_nat, List.length_map, h64, if_true, dedup_of (nodup_cast h)]
theorem are_partners_eq {T : Tbl} [Fc T "are_partners" p_are_partners] [Fc T "is_pair" p_is_pair] [Fc T "is_between" p_is_between] [Fc T "is_rising" p_is_rising] {n : Nat} {g : List GI} {s t : Nat} {ps : List (Nat × Nat)} (h1 : ps.Pairwise (fun p q => p.1 < q.1)) (h2 : ps.Pairwise (fun p q => p.2 ≠ q.2)) (h3 : ∀ p ∈ ps, p.1 < s ∧ p.2 < t) (hl : ps.length < 64) : callN T (n + 3) "are_partners" [.v (.int s), .v (.int t), .v (ePs ps)] g = .ret (.v (.bl true)) [.v (.int s), .v (.int t), .v (ePs ps)] g := by
  refine eq_of (run_in (Fc.at_ : T "are_partners" = some p_are_partners) rfl rfl ?_)
  have hz : ps.length ≤ line := by unfold line; omega
  simp
  refine lc_map (fun _ => .bl true) (fun p hp => lcF_ok rfl ?_) ?_
  · simp [is_pair_eq (h3 p hp).1 (h3 p hp).2]
  · simp [hz]
    refine lc_map (fun p => .int p.2) (fun p hp => lcF_ok rfl ?_) ?_
    · simp
    · have e := lenSet_nodup (l := ps.map (·.2)) (List.Pairwise.map _ (fun _ _ h => h) h2) (by simpa using hl)
      simp [nL, Function.comp_def] at e
      simp [hz, e]
      refine lc_map (fun p => .int p.1) (fun p hp => lcF_ok rfl ?_) ?_
      · simp
      · have r := fun n => is_rising_N (T := T) (n := n) (g := g) (l := ps.map (·.1)) (List.Pairwise.map _ (fun _ _ h => h) h1) (by simp; omega)
        simp [nL, Function.comp_def] at r
        simp [hz, r]
theorem are_two_fields_eq {T : Tbl} [Fc T "are_two_fields" p_are_two_fields] [Fc T "is_between" p_is_between] {n : Nat} {g : List GI} {ns : List Nat} {f h : Nat} (h1 : f < h) (h2 : h < ns.length) : callN T (n + 2) "are_two_fields" [.v (eL ns), .v (.int f), .v (.int h)] g = .ret (.v (.bl true)) [.v (eL ns), .v (.int f), .v (.int h)] g := by
  refine eq_of (run_in (Fc.at_ : T "are_two_fields" = some p_are_two_fields) rfl rfl ?_)
  simp [show f < ns.length by omega, h2, show (f : Int) + 1 ≤ h by omega]
theorem asc_len {l : List Nat} (h : l.Pairwise (· < ·)) : ∀ {s : Nat}, (∀ e ∈ l, e < s) → l.length ≤ s := by
  intro s hs
  have := nodup_len (l := l) (k := (List.range s).filter (fun x => decide (x ∈ l))) (h.imp fun h => by omega) (List.nodup_range.filter _) fun x => by
    rw [List.mem_filter, List.mem_range]
    constructor
    · intro m
      exact ⟨hs x m, by simpa using m⟩
    · rintro ⟨_, m⟩
      simpa using m
  have := List.length_filter_le (fun x => decide (x ∈ l)) (List.range s)
  simp at this
  omega
theorem ROk.small {ns : List Nat} (hs : Sz ns) {f h : Nat} {ps : List (Nat × Nat)} (r : ROk ns (.mtch f h ps)) : ps.length ≤ 5 := by
  have := asc_len (l := ps.map (·.1)) (List.Pairwise.map _ (fun _ _ h => h) r.2.2.1) (s := vl ns f) (fun e he => by
    obtain ⟨p, hp, rfl⟩ := List.mem_map.mp he
    exact (r.2.2.2.2 p hp).1)
  have := hs.le5 f
  simp at *
  omega
theorem is_rule_of_eq {T : Tbl} [Fc T "is_rule_of" p_is_rule_of] [Fc T "is_between" p_is_between] [Fc T "are_entries" p_are_entries] [Fc T "is_rising" p_is_rising] [Fc T "are_two_fields" p_are_two_fields] [Fc T "are_partners" p_are_partners] [Fc T "is_pair" p_is_pair] {n : Nat} {g : List GI} {ns : List Nat} (hs : Sz ns) {r : Rule} (h : ROk ns r) : callN T (n + 4) "is_rule_of" [.v (eL ns), .v (eR r)] g = .ret (.v (.bl true)) [.v (eL ns), .v (eR r)] g := by
  refine eq_of (run_in (Fc.at_ : T "is_rule_of" = some p_is_rule_of) rfl rfl ?_)
  cases r with
  | among f es =>
    obtain ⟨h1, h2, h3⟩ := h
    have := asc_len h2 h3
    have := hs.le5 f
    simp [eR, h1, ix_L h1, are_entries_eq h2 h3 (by omega)]
  | mtch f k ps =>
    have hp := ROk.small hs h
    obtain ⟨h1, h2, h3, h4, h5⟩ := h
    simp [eR, are_two_fields_eq h1 h2, ix_L h2, ix_L (show f < ns.length by omega), are_partners_eq h3 h4 h5 (by omega)]
  | eith f v k w =>
    obtain ⟨h1, h2, h3, h4⟩ := h
    simp [eR, are_two_fields_eq h1 h2, ix_L h2, ix_L (show f < ns.length by omega), h3, h4]
theorem is_book_of_eq {T : Tbl} [Fc T "is_book_of" p_is_book_of] [Fc T "is_rule_of" p_is_rule_of] [Fc T "is_between" p_is_between] [Fc T "are_entries" p_are_entries] [Fc T "is_rising" p_is_rising] [Fc T "are_two_fields" p_are_two_fields] [Fc T "are_partners" p_are_partners] [Fc T "is_pair" p_is_pair] {n : Nat} {g : List GI} {ns : List Nat} (hs : Sz ns) {B : List Rule} (h : BOk ns B) (hl : B.length ≤ 1000) : callN T (n + 5) "is_book_of" [.v (eL ns), .v (eB B)] g = .ret (.v (.bl true)) [.v (eL ns), .v (eB B)] g := by
  refine eq_of (run_in (Fc.at_ : T "is_book_of" = some p_is_book_of) rfl rfl ?_)
  simp
  refine lc_map (fun _ => .bl true) (fun r hr => lcF_ok rfl ?_) ?_
  · simp [is_rule_of_eq hs (h r hr)]
  · simp [show B.length ≤ line by unfold line; omega]
theorem is_part_of_eq {T : Tbl} [Fc T "is_part_of" p_is_part_of] [Fc T "is_between" p_is_between] {n : Nat} {g : List GI} {ns : List Nat} (hs : Sz ns) {p : List (Option Nat)} (h : Pt ns p) : callN T (n + 2) "is_part_of" [.v (eL ns), .v (eT p)] g = .ret (.v (.bl true)) [.v (eL ns), .v (eT p)] g := by
  refine eq_of (run_in (Fc.at_ : T "is_part_of" = some p_is_part_of) rfl rfl ?_)
  have h8 := hs.hi
  simp [h.len, r_0 (n := ns.length) (by omega)]
  refine lc_map (fun _ => .bl true) (fun i hi => lcF_ok rfl ?_) ?_
  · have hi : i < ns.length := List.mem_range.mp hi
    simp [ix_T (l := p) (i := i) (by rw [h.len]; exact hi)]
    cases e : ol p i with
    | none => simp [eO]
    | some v => simp [eO, ix_L hi, ix_T (l := p) (i := i) (by rw [h.len]; exact hi), e, h.ok i v e]
  · simp [show ns.length ≤ line by unfold line; omega]
theorem is_filling_of_eq {T : Tbl} [Fc T "is_filling_of" p_is_filling_of] [Fc T "is_part_of" p_is_part_of] [Fc T "is_between" p_is_between] {n : Nat} {g : List GI} {ns : List Nat} (hs : Sz ns) {row : List Nat} (h : Fill ns row) : callN T (n + 3) "is_filling_of" [.v (eL ns), .v (eL row)] g = .ret (.v (.bl true)) [.v (eL ns), .v (eL row)] g := by
  refine eq_of (run_in (Fc.at_ : T "is_filling_of" = some p_is_filling_of) rfl rfl ?_)
  have h8 := hs.hi
  have e := fun n => is_part_of_eq (T := T) (n := n) (g := g) hs (Fill.pt h)
  simp only [eT_some] at e
  simp [e]
  refine lc_map (fun _ => .bl true) (fun i hi => lcF_ok rfl ?_) ?_
  · simp
  · simp [show row.length ≤ line by rw [h.1]; unfold line; omega]
/-! ### need_.. -/
theorem need_sheet_eq {T : Tbl} [Fc T "need_sheet" p_need_sheet] [Fc T "is_sheet" p_is_sheet] [Fc T "is_between" p_is_between] {n : Nat} {g : List GI} {ns : List Nat} (hs : Sz ns) : callN T (n + 3) "need_sheet" [.v (eL ns)] g = .ret (.v .non) [.v (eL ns)] g := by
  refine eq_of (run_in (Fc.at_ : T "need_sheet" = some p_need_sheet) rfl rfl ?_)
  simp [is_sheet_eq hs]
theorem need_rule_eq {T : Tbl} [Fc T "need_rule" p_need_rule] [Fc T "is_rule_of" p_is_rule_of] [Fc T "is_between" p_is_between] [Fc T "are_entries" p_are_entries] [Fc T "is_rising" p_is_rising] [Fc T "are_two_fields" p_are_two_fields] [Fc T "are_partners" p_are_partners] [Fc T "is_pair" p_is_pair] {n : Nat} {g : List GI} {ns : List Nat} (hs : Sz ns) {r : Rule} (h : ROk ns r) : callN T (n + 5) "need_rule" [.v (eL ns), .v (eR r)] g = .ret (.v .non) [.v (eL ns), .v (eR r)] g := by
  refine eq_of (run_in (Fc.at_ : T "need_rule" = some p_need_rule) rfl rfl ?_)
  simp [is_rule_of_eq hs h]
theorem need_book_eq {T : Tbl} [Fc T "need_book" p_need_book] [Fc T "is_book_of" p_is_book_of] [Fc T "is_rule_of" p_is_rule_of] [Fc T "is_between" p_is_between] [Fc T "are_entries" p_are_entries] [Fc T "is_rising" p_is_rising] [Fc T "are_two_fields" p_are_two_fields] [Fc T "are_partners" p_are_partners] [Fc T "is_pair" p_is_pair] {n : Nat} {g : List GI} {ns : List Nat} (hs : Sz ns) {B : List Rule} (h : BOk ns B) (hl : B.length ≤ 1000) : callN T (n + 6) "need_book" [.v (eL ns), .v (eB B)] g = .ret (.v .non) [.v (eL ns), .v (eB B)] g := by
  refine eq_of (run_in (Fc.at_ : T "need_book" = some p_need_book) rfl rfl ?_)
  simp [is_book_of_eq hs h hl]
theorem need_part_eq {T : Tbl} [Fc T "need_part" p_need_part] [Fc T "is_part_of" p_is_part_of] [Fc T "is_between" p_is_between] {n : Nat} {g : List GI} {ns : List Nat} (hs : Sz ns) {p : List (Option Nat)} (h : Pt ns p) : callN T (n + 3) "need_part" [.v (eL ns), .v (eT p)] g = .ret (.v .non) [.v (eL ns), .v (eT p)] g := by
  refine eq_of (run_in (Fc.at_ : T "need_part" = some p_need_part) rfl rfl ?_)
  simp [is_part_of_eq hs h]
theorem need_filling_eq {T : Tbl} [Fc T "need_filling" p_need_filling] [Fc T "is_filling_of" p_is_filling_of] [Fc T "is_part_of" p_is_part_of] [Fc T "is_between" p_is_between] {n : Nat} {g : List GI} {ns : List Nat} (hs : Sz ns) {row : List Nat} (h : Fill ns row) : callN T (n + 4) "need_filling" [.v (eL ns), .v (eL row)] g = .ret (.v .non) [.v (eL ns), .v (eL row)] g := by
  refine eq_of (run_in (Fc.at_ : T "need_filling" = some p_need_filling) rfl rfl ?_)
  simp [is_filling_of_eq hs h]
theorem need_field_eq {T : Tbl} [Fc T "need_field" p_need_field] [Fc T "is_between" p_is_between] {n : Nat} {g : List GI} {ns : List Nat} {f : Nat} (h : f < ns.length) : callN T (n + 2) "need_field" [.v (eL ns), .v (.int f)] g = .ret (.v .non) [.v (eL ns), .v (.int f)] g := by
  refine eq_of (run_in (Fc.at_ : T "need_field" = some p_need_field) rfl rfl ?_)
  simp [h]
theorem need_other_eq {T : Tbl} [Fc T "need_other" p_need_other] [Fc T "is_between" p_is_between] {n : Nat} {g : List GI} {ns : List Nat} {f k : Nat} (h : k < ns.length) (hne : k ≠ f) : callN T (n + 2) "need_other" [.v (eL ns), .v (.int f), .v (.int k)] g = .ret (.v .non) [.v (eL ns), .v (.int f), .v (.int k)] g := by
  refine eq_of (run_in (Fc.at_ : T "need_other" = some p_need_other) rfl rfl ?_)
  simp [h, hne]
theorem need_entry_eq {T : Tbl} [Fc T "need_entry" p_need_entry] [Fc T "is_between" p_is_between] {n : Nat} {g : List GI} {ns : List Nat} {f v : Nat} (h : v < vl ns f) : callN T (n + 2) "need_entry" [.v (eL ns), .v (.int f), .v (.int v)] g = .ret (.v .non) [.v (eL ns), .v (.int f), .v (.int v)] g := by
  refine eq_of (run_in (Fc.at_ : T "need_entry" = some p_need_entry) rfl rfl ?_)
  simp [ix_L (vl_lt h), h]
end Q
end
section
set_option maxHeartbeats 4000000
namespace Q
open PySem
/-! ### small values: ==, in, repr -/
structure Gd (d w : Nat) (p : PV) : Prop where
  lay : p.toD.canLay0 = true
  dep : p.toD.depth ≤ d
  wt : p.toD.weight ≤ w
  sh : p.toD.intsShort 13 = true
  sw : p.toD.showable = true
theorem Gd.mono {d w d' w' : Nat} {p : PV} (h : Gd d w p) (h1 : d ≤ d') (h2 : w ≤ w') : Gd d' w' p := ⟨h.lay, Nat.le_trans h.dep h1, Nat.le_trans h.wt h2, h.sh, h.sw⟩
theorem Gd.non : Gd 0 0 .non := ⟨rfl, Nat.le_refl _, Nat.le_refl _, rfl, rfl⟩
theorem Gd.bl (b : Bool) : Gd 0 0 (.bl b) := ⟨rfl, Nat.le_refl _, by simp [PV.toD, PyData.weight], rfl, rfl⟩
theorem Gd.int {i : Int} (h : i.natAbs < 10 ^ 12) : Gd 0 41 (.int i) := by
  obtain ⟨a1, a2, a3, a4, a5⟩ := atom_lay (p := .int i) (by simpa [atom] using h)
  exact ⟨a1, by omega, a3, a4, a5⟩
theorem Gd.nat {n : Nat} (h : n < 10 ^ 12) : Gd 0 41 (.int (n : Int)) := Gd.int (by simpa using h)
theorem Gd.str {s : Str} {w : Nat} (h : PyData.strOk s = true) (hw : s.cps.size ≤ w) : Gd 0 w (.str s) := ⟨by simpa [PV.toD, PyData.canLay0] using h, by simp [PV.toD, PyData.depth], by simpa [PV.toD, PyData.weight] using hw, rfl, rfl⟩
theorem gd_all {d w : Nat} : ∀ {xs : List PV}, (∀ p ∈ xs, Gd d w p) → PyData.canLayAll0 (PV.toDs xs) = true ∧ PyData.depthAll (PV.toDs xs) ≤ d ∧ PyData.weightAll (PV.toDs xs) ≤ xs.length * (w + 1) ∧ PyData.intsShortAll 13 (PV.toDs xs) = true ∧ PyData.showableAll (PV.toDs xs) = true
  | [], _ => ⟨rfl, by simp [PV.toDs, PyData.depthAll], by simp [PV.toDs, PyData.weightAll], rfl, rfl⟩
  | x :: xs, h => by
    have a := h x (List.mem_cons_self ..)
    obtain ⟨b1, b2, b3, b4, b5⟩ := gd_all (xs := xs) fun p hp => h p (List.mem_cons_of_mem _ hp)
    have := a.wt
    have := a.dep
    refine ⟨by simp [PV.toDs, PyData.canLayAll0, a.lay, b1], ?_, ?_, by simp [PV.toDs, PyData.intsShortAll, a.sh, b4], by simp [PV.toDs, PyData.showableAll, a.sw, b5]⟩
    · simp only [PV.toDs, PyData.depthAll]
      omega
    · simp only [PV.toDs, PyData.weightAll, List.length_cons, Nat.add_mul, Nat.one_mul]
      omega
theorem Gd.tup {d w : Nat} {xs : List PV} (h : ∀ p ∈ xs, Gd d w p) : Gd (d + 1) (xs.length * (w + 1)) (.tup xs) := by
  obtain ⟨b1, b2, b3, b4, b5⟩ := gd_all h
  exact ⟨by simpa [PV.toD, PyData.canLay0] using b1, by simp only [PV.toD, PyData.depth]; omega, by simpa [PV.toD, PyData.weight] using b3, by simpa [PV.toD, PyData.intsShort] using b4, by simpa [PV.toD, PyData.showable] using b5⟩
theorem Gd.lst {d w : Nat} {xs : List PV} (h : ∀ p ∈ xs, Gd d w p) : Gd (d + 1) (xs.length * (w + 1)) (.lst xs) := by
  obtain ⟨b1, b2, b3, b4, b5⟩ := gd_all h
  exact ⟨by simpa [PV.toD, PyData.canLay0] using b1, by simp only [PV.toD, PyData.depth]; omega, by simpa [PV.toD, PyData.weight] using b3, by simpa [PV.toD, PyData.intsShort] using b4, by simpa [PV.toD, PyData.showable] using b5⟩
theorem Gd.fit {d w : Nat} {p : PV} (h : Gd d w p) (hd : d ≤ 64) : p.fit = true := by
  unfold PV.fit SeqAt.shaped
  have := h.dep
  rw [h.lay, decide_eq_true (by omega)]
  rfl
theorem Gd.short {d w : Nat} {p : PV} (h : Gd d w p) (hd : d ≤ 64) (hw : w ≤ 1048576) : p.toD.shown.length ≤ line := by
  rw [← sizeL]
  have h1 := h.dep
  have h2 := h.wt
  exact PyData.shown_fits_of_layable0 (B := 13) (by decide) (by decide) (by
    unfold PyData.layable0
    rw [h.lay, decide_eq_true (by omega), decide_eq_true (by omega)]
    rfl) h.sh
theorem Gd.repr {d w : Nat} {p : PV} (h : Gd d w p) (hd : d ≤ 64) (hw : w ≤ 1048576) {x : DV} (hx : x.pv = some p) : bltO .repr [x] = some (.v (.str p.toD.shown)) := by
  have e : bltO .repr [x] = (match x.pv with | some p => if p.fit && p.toD.showable && decide (p.toD.shown.length ≤ line) then some (.v (.str p.toD.shown)) else none | none => none) := by cases x <;> rfl
  rw [e, hx]
  dsimp only
  rw [h.fit hd, h.sw, decide_eq_true (h.short hd hw)]
  rfl
/-! values without truths: == is equality -/
mutual
def nb : PV → Bool
  | .non => true
  | .bl _ => false
  | .int _ => true
  | .str _ => true
  | .tup xs => nbs xs
  | .lst xs => nbs xs
  | .scr _ => false
  | .obj _ => false
def nbs : List PV → Bool
  | [] => true
  | x :: xs => nb x && nbs xs
end
theorem nbs_all : ∀ {xs : List PV}, nbs xs = true ↔ ∀ p ∈ xs, nb p = true
  | [] => by simp [nbs]
  | x :: xs => by simp [nbs, nbs_all (xs := xs)]
mutual
theorem eqv_iff : ∀ {p q : PV}, nb p = true → nb q = true → (PyData.eqv p.toD q.toD = true ↔ p = q)
  | .non, q, _, h => by cases q <;> simp [PV.toD, PyData.eqv, nb] at *
  | .int i, q, _, h => by cases q <;> simp [PV.toD, PyData.eqv, nb] at *
  | .str s, q, _, h => by cases q <;> simp [PV.toD, PyData.eqv, nb] at *
  | .tup xs, q, h1, h2 => by
    cases q with
    | tup ys =>
      have := eqvs_iff (xs := xs) (ys := ys) (by simpa [nb] using h1) (by simpa [nb] using h2)
      simp only [PV.toD, PyData.eqv, this, PV.tup.injEq]
    | _ => simp [PV.toD, PyData.eqv, nb] at *
  | .lst xs, q, h1, h2 => by
    cases q with
    | lst ys =>
      have := eqvs_iff (xs := xs) (ys := ys) (by simpa [nb] using h1) (by simpa [nb] using h2)
      simp only [PV.toD, PyData.eqv, this, PV.lst.injEq]
    | _ => simp [PV.toD, PyData.eqv, nb] at *
theorem eqvs_iff : ∀ {xs ys : List PV}, nbs xs = true → nbs ys = true → (PyData.eqvAll (PV.toDs xs) (PV.toDs ys) = true ↔ xs = ys)
  | [], [], _, _ => by simp [PV.toDs, PyData.eqvAll]
  | [], y :: ys, _, _ => by simp [PV.toDs, PyData.eqvAll]
  | x :: xs, [], _, _ => by simp [PV.toDs, PyData.eqvAll]
  | x :: xs, y :: ys, h1, h2 => by
    simp only [nbs, Bool.and_eq_true] at h1 h2
    simp only [PV.toDs, PyData.eqvAll, Bool.and_eq_true, eqv_iff h1.1 h2.1, eqvs_iff h1.2 h2.2, List.cons.injEq]
end
theorem c_same {x y : DV} {p q : PV} {d w : Nat} {b : Bool} (hx : x.pv = some p) (hy : y.pv = some q) (h1 : Gd d w p) (h2 : Gd d w q) (hd : d ≤ 64) (n1 : nb p = true) (n2 : nb q = true) (hs : ∀ s, p ≠ .str s) (hb : b = true ↔ p = q) : cmpO .Eq x y = some b := by
  rw [c_eqv hx hy (h1.fit hd) (h2.fit hd) hs]
  congr 1
  rw [Bool.eq_iff_iff, hb]
  exact eqv_iff n1 n2
theorem c_diff {x y : DV} {p q : PV} {d w : Nat} {b : Bool} (hx : x.pv = some p) (hy : y.pv = some q) (h1 : Gd d w p) (h2 : Gd d w q) (hd : d ≤ 64) (n1 : nb p = true) (n2 : nb q = true) (hs : ∀ s, p ≠ .str s) (hb : b = true ↔ p = q) : cmpO .NotEq x y = some (!b) := by
  have h : cmpO .NotEq x y = (cmpO .Eq x y).map (!·) := rfl
  rw [h, c_same hx hy h1 h2 hd n1 n2 hs hb]
  rfl
/-- p in a tuple -/
theorem in_tup {x : DV} {p : PV} {xs : List PV} {d w : Nat} {b : Bool} (hx : x.pv = some p) (h1 : Gd d w p) (h2 : ∀ q ∈ xs, Gd d w q) (hd : d ≤ 60) (n1 : nb p = true) (n2 : ∀ q ∈ xs, nb q = true) (hb : b = true ↔ p ∈ xs) : cmpO .In x (.v (.tup xs)) = some b := by
  have h : cmpO .In x (.v (.tup xs)) = if p.fit && (PV.tup xs).fit then some (xs.any fun q => q.eqv p) else none := by
    simp only [cmpO, inO, hx]
  rw [h, h1.fit (by omega), (Gd.tup h2).fit (by omega)]
  simp only [Bool.and_self, if_true]
  congr 1
  rw [Bool.eq_iff_iff, hb, List.any_eq_true]
  constructor
  · rintro ⟨q, hq, e⟩
    have := (eqv_iff (n2 q hq) n1).mp e
    rw [← this]
    exact hq
  · exact fun m => ⟨p, m, (eqv_iff n1 n1).mpr rfl⟩
theorem in_lst {x y : DV} {p : PV} {xs : List PV} {d w : Nat} {b : Bool} (hx : x.pv = some p) (hy : y.lst = some xs) (h1 : Gd d w p) (h2 : ∀ q ∈ xs, Gd d w q) (hd : d ≤ 60) (n1 : nb p = true) (n2 : ∀ q ∈ xs, nb q = true) (hb : b = true ↔ p ∈ xs) : cmpO .In x y = some b := by
  have h : cmpO .In x y = if p.fit && (PV.lst xs).fit then some (xs.any fun q => q.eqv p) else none := by
    have : cmpO .In x y = inO x y := rfl
    rw [this]
    unfold inO
    rw [hx]
    dsimp only
    split
    · cases hy
    · cases hy
    · cases hy
    · rw [hy]
  rw [h, h1.fit (by omega), (Gd.lst h2).fit (by omega)]
  simp only [Bool.and_self, if_true]
  congr 1
  rw [Bool.eq_iff_iff, hb, List.any_eq_true]
  constructor
  · rintro ⟨q, hq, e⟩
    have := (eqv_iff (n2 q hq) n1).mp e
    rw [← this]
    exact hq
  · exact fun m => ⟨p, m, (eqv_iff n1 n1).mpr rfl⟩
theorem notin_of {x y : DV} {b : Bool} (h : cmpO .In x y = some b) : cmpO .NotIn x y = some (!b) := by
  have e : cmpO .NotIn x y = (cmpO .In x y).map (!·) := rfl
  rw [e, h]
  rfl
end Q
end
section
set_option maxHeartbeats 4000000
namespace Q
open PySem Q.M
/-! ### the values are small, and told apart -/
theorem gd_N {l : List Nat} (h : ∀ a ∈ l, a < 10 ^ 12) : ∀ p ∈ nL l, Gd 0 41 p := fun p hp => by
  obtain ⟨a, ha, rfl⟩ := List.mem_map.mp hp
  exact Gd.nat (h a ha)
theorem gd_L {l : List Nat} (h : ∀ a ∈ l, a < 10 ^ 12) : Gd 1 (l.length * 42) (eL l) := by
  have := Gd.tup (gd_N h)
  simpa [nL, eL] using this
theorem gd_P {p : Nat × Nat} (h1 : p.1 < 10 ^ 12) (h2 : p.2 < 10 ^ 12) : Gd 1 84 (eP p) := by
  have := gd_L (l := [p.1, p.2]) (by simp; exact ⟨h1, h2⟩)
  simpa [eL, eP] using this
theorem gd_Ps {l : List (Nat × Nat)} (h : ∀ p ∈ l, p.1 < 10 ^ 12 ∧ p.2 < 10 ^ 12) : Gd 2 (l.length * 85) (ePs l) := by
  have := Gd.tup (d := 1) (w := 84) (xs := l.map eP) fun p hp => by
    obtain ⟨a, ha, rfl⟩ := List.mem_map.mp hp
    exact gd_P (h a ha).1 (h a ha).2
  simpa [ePs] using this
theorem gd_O {o : Option Nat} (h : ∀ v, o = some v → v < 10 ^ 12) : Gd 0 41 (eO o) := by
  cases o with
  | none => exact Gd.non.mono (by decide) (by decide)
  | some v => exact Gd.nat (h v rfl)
theorem gd_T {l : List (Option Nat)} (h : ∀ f v, ol l f = some v → v < 10 ^ 12) : Gd 1 (l.length * 42) (eT l) := by
  have := Gd.tup (d := 0) (w := 41) (xs := l.map eO) fun p hp => by
    obtain ⟨a, ha, rfl⟩ := List.mem_map.mp hp
    obtain ⟨i, hi, e⟩ := List.getElem_of_mem ha
    refine gd_O fun v hv => h i v ?_
    unfold ol
    rw [List.getElem?_eq_getElem hi, e, hv]
    rfl
  simpa [eT] using this
theorem strs_ok : PyData.strOk ("among" : Str) = true ∧ PyData.strOk ("match" : Str) = true ∧ PyData.strOk ("either" : Str) = true ∧ ("among" : Str).cps.size ≤ 10 ∧ ("match" : Str).cps.size ≤ 10 ∧ ("either" : Str).cps.size ≤ 10 := by decide +kernel
theorem Sz.small {ns : List Nat} (h : Sz ns) {f v : Nat} (hv : v < vl ns f) : v < 10 ^ 12 := by
  have := h.le5 f
  omega
theorem Sz.mem5 {ns : List Nat} (h : Sz ns) {a : Nat} (ha : a ∈ ns) : 1 ≤ a ∧ a ≤ 5 := by
  obtain ⟨i, hi, rfl⟩ := mem_vl ha
  exact h.at_ i hi
theorem gd_R {ns : List Nat} (hs : Sz ns) {r : Rule} (h : ROk ns r) : Gd 3 3000 (eR r) := by
  obtain ⟨s1, s2, s3, s4, s5, s6⟩ := strs_ok
  have h8 := hs.hi
  cases r with
  | among f es =>
    obtain ⟨h1, h2, h3⟩ := h
    have := asc_len h2 h3
    have := hs.le5 f
    refine (Gd.tup (d := 1) (w := 300) (xs := [.str "among", .int f, eL es]) fun p hp => ?_).mono (by decide) (by simp)
    simp at hp
    rcases hp with rfl | rfl | rfl
    · exact (Gd.str s1 s4).mono (by decide) (by decide)
    · exact (Gd.nat (by omega)).mono (by decide) (by decide)
    · exact (gd_L fun a ha => hs.small (h3 a ha)).mono (by decide) (by omega)
  | mtch f k ps =>
    have hp5 := ROk.small hs h
    obtain ⟨h1, h2, h3, h4, h5⟩ := h
    refine (Gd.tup (d := 2) (w := 500) (xs := [.str "match", .int f, .int k, ePs ps]) fun p hp => ?_).mono (by decide) (by simp)
    simp at hp
    rcases hp with rfl | rfl | rfl | rfl
    · exact (Gd.str s2 s5).mono (by decide) (by decide)
    · exact (Gd.nat (by omega)).mono (by decide) (by decide)
    · exact (Gd.nat (by omega)).mono (by decide) (by decide)
    · exact (gd_Ps fun p hp => ⟨hs.small (h5 p hp).1, hs.small (h5 p hp).2⟩).mono (by decide) (by omega)
  | eith f v k w =>
    obtain ⟨h1, h2, h3, h4⟩ := h
    have := hs.small h3
    have := hs.small h4
    refine (Gd.tup (d := 0) (w := 50) (xs := [.str "either", .int f, .int v, .int k, .int w]) fun p hp => ?_).mono (by decide) (by simp)
    simp at hp
    rcases hp with rfl | rfl | rfl | rfl | rfl
    · exact (Gd.str s3 s6).mono (by decide) (by decide)
    all_goals exact (Gd.nat (by omega)).mono (by decide) (by decide)
theorem gd_B {ns : List Nat} (hs : Sz ns) {B : List Rule} (h : BOk ns B) : Gd 4 (B.length * 3001) (eB B) := by
  have := Gd.tup (d := 3) (w := 3000) (xs := B.map eR) fun p hp => by
    obtain ⟨r, hr, rfl⟩ := List.mem_map.mp hp
    exact gd_R hs (h r hr)
  simpa [eB] using this
theorem Fill.small {ns row : List Nat} (hs : Sz ns) (h : Fill ns row) {a : Nat} (ha : a ∈ row) : a < 10 ^ 12 := by
  obtain ⟨i, hi, rfl⟩ := mem_vl ha
  exact hs.small (h.2 i (by rw [← h.1]; exact hi))
theorem Fill.gd {ns row : List Nat} (hs : Sz ns) (h : Fill ns row) : Gd 1 336 (eL row) := (gd_L fun a ha => Fill.small hs h ha).mono (Nat.le_refl _) (by have := hs.hi; have := h.1; omega)
theorem Pt.gd {ns : List Nat} {p : List (Option Nat)} (hs : Sz ns) (h : Pt ns p) : Gd 1 336 (eT p) := (gd_T fun f v e => hs.small (h.ok f v e)).mono (Nat.le_refl _) (by have := hs.hi; have := h.len; omega)
@[simp] theorem nb_L {l : List Nat} : nb (eL l) = true := by
  unfold eL nb
  rw [nbs_all]
  intro p hp
  obtain ⟨a, _, rfl⟩ := List.mem_map.mp hp
  rfl
@[simp] theorem nb_P {p : Nat × Nat} : nb (eP p) = true := rfl
@[simp] theorem nb_Ps {l : List (Nat × Nat)} : nb (ePs l) = true := by
  unfold ePs nb
  rw [nbs_all]
  intro p hp
  obtain ⟨a, _, rfl⟩ := List.mem_map.mp hp
  rfl
@[simp] theorem nb_O {o : Option Nat} : nb (eO o) = true := by cases o <;> rfl
@[simp] theorem nb_T {l : List (Option Nat)} : nb (eT l) = true := by
  unfold eT nb
  rw [nbs_all]
  intro p hp
  obtain ⟨a, _, rfl⟩ := List.mem_map.mp hp
  exact nb_O
@[simp] theorem nb_R {r : Rule} : nb (eR r) = true := by cases r <;> simp [eR, nb, nbs]
@[simp] theorem nb_B {l : List Rule} : nb (eB l) = true := by
  unfold eB nb
  rw [nbs_all]
  intro p hp
  obtain ⟨a, _, rfl⟩ := List.mem_map.mp hp
  exact nb_R
theorem inj_map {α : Type} {f : α → PV} (h : ∀ a b, f a = f b → a = b) : ∀ {l k : List α}, l.map f = k.map f → l = k
  | [], [], _ => rfl
  | [], b :: k, e => by simp at e
  | a :: l, [], e => by simp at e
  | a :: l, b :: k, e => by
    simp only [List.map_cons, List.cons.injEq] at e
    rw [h _ _ e.1, inj_map h e.2]
@[simp] theorem inj_L {l k : List Nat} : eL l = eL k ↔ l = k := ⟨fun e => inj_map (fun a b h => by simpa using h) (PV.tup.inj e), fun e => by rw [e]⟩
@[simp] theorem inj_P {p q : Nat × Nat} : eP p = eP q ↔ p = q := ⟨fun e => by
  obtain ⟨a, b⟩ := p
  obtain ⟨c, d⟩ := q
  simpa [eP] using e, fun e => by rw [e]⟩
@[simp] theorem inj_Ps {l k : List (Nat × Nat)} : ePs l = ePs k ↔ l = k := ⟨fun e => inj_map (fun a b h => inj_P.mp h) (PV.tup.inj e), fun e => by rw [e]⟩
@[simp] theorem inj_O {a b : Option Nat} : eO a = eO b ↔ a = b := by cases a <;> cases b <;> simp [eO]
@[simp] theorem inj_T {l k : List (Option Nat)} : eT l = eT k ↔ l = k := ⟨fun e => inj_map (fun a b h => inj_O.mp h) (PV.tup.inj e), fun e => by rw [e]⟩
theorem str_ne : ("among" : Str) ≠ "match" ∧ ("among" : Str) ≠ "either" ∧ ("match" : Str) ≠ "either" := by decide +kernel
@[simp] theorem inj_R {a b : Rule} : eR a = eR b ↔ a = b := by
  obtain ⟨n1, n2, n3⟩ := str_ne
  cases a <;> cases b <;> simp [eR, n1, n2, n3, n1.symm, n2.symm, n3.symm]
  all_goals (constructor <;> (rintro ⟨⟩; simp_all))
@[simp] theorem inj_B {l k : List Rule} : eB l = eB k ↔ l = k := ⟨fun e => inj_map (fun a b h => inj_R.mp h) (PV.tup.inj e), fun e => by rw [e]⟩
/-! comparisons -/
theorem q_L {l k : List Nat} (h1 : ∀ a ∈ l, a < 10 ^ 12) (h2 : ∀ a ∈ k, a < 10 ^ 12) : cmpO .Eq (.v (eL l)) (.v (eL k)) = some (decide (l = k)) :=
  c_same rfl rfl ((gd_L h1).mono (Nat.le_refl _) (Nat.le_max_left _ (k.length * 42))) ((gd_L h2).mono (Nat.le_refl _) (Nat.le_max_right _ _)) (by decide) nb_L nb_L (fun s h => by cases h) (by simp)
theorem q_Ln {l k : List Nat} (h1 : ∀ a ∈ l, a < 10 ^ 12) (h2 : ∀ a ∈ k, a < 10 ^ 12) : cmpO .NotEq (.v (eL l)) (.v (eL k)) = some (!decide (l = k)) :=
  c_diff rfl rfl ((gd_L h1).mono (Nat.le_refl _) (Nat.le_max_left _ (k.length * 42))) ((gd_L h2).mono (Nat.le_refl _) (Nat.le_max_right _ _)) (by decide) nb_L nb_L (fun s h => by cases h) (by simp)
theorem in_L {a : Nat} {l : List Nat} (h1 : a < 10 ^ 12) (h2 : ∀ a ∈ l, a < 10 ^ 12) : cmpO .In (.v (.int a)) (.v (eL l)) = some (l.contains a) := by
  refine in_tup (d := 0) (w := 41) rfl (Gd.nat h1) (gd_N h2) (by decide) rfl (fun q hq => ?_) ?_
  · obtain ⟨a, _, rfl⟩ := List.mem_map.mp hq
    rfl
  · rw [List.contains_iff_mem]
    constructor
    · exact fun m => List.mem_map_of_mem (f := fun (n : Nat) => PV.int n) m
    · intro m
      obtain ⟨b, hb, e⟩ := List.mem_map.mp m
      simp at e
      rw [← e]
      exact hb
theorem in_Ps {a b : Nat} {l : List (Nat × Nat)} (h1 : a < 10 ^ 12) (h1' : b < 10 ^ 12) (h2 : ∀ p ∈ l, p.1 < 10 ^ 12 ∧ p.2 < 10 ^ 12) : cmpO .In (.v (.tup [.int a, .int b])) (.v (ePs l)) = some (l.contains (a, b)) := by
  refine in_tup (d := 1) (w := 84) rfl (gd_P (p := (a, b)) h1 h1') (fun q hq => ?_) (by decide) rfl (fun q hq => ?_) ?_
  · obtain ⟨p, hp, rfl⟩ := List.mem_map.mp hq
    exact gd_P (h2 p hp).1 (h2 p hp).2
  · obtain ⟨p, hp, rfl⟩ := List.mem_map.mp hq
    exact nb_P
  · rw [List.contains_iff_mem]
    constructor
    · exact fun m => List.mem_map_of_mem (f := eP) m
    · intro m
      obtain ⟨p, hp, e⟩ := List.mem_map.mp m
      have : eP p = eP (a, b) := e
      rw [inj_P] at this
      rw [← this]
      exact hp
/-! ### holds, broken, agrees, mixed -/
theorem rule_holds_eq {T : Tbl} [Fc T "rule_holds" p_rule_holds] {n : Nat} {g : List GI} {ns row : List Nat} (hs : Sz ns) {r : Rule} (h : ROk ns r) (hr : Fill ns row) : callN T (n + 1) "rule_holds" [.v (eR r), .v (eL row)] g = .ret (.v (.bl (holds r row))) [.v (eR r), .v (eL row)] g := by
  refine eq_of (run_in (Fc.at_ : T "rule_holds" = some p_rule_holds) rfl rfl ?_)
  have hl := hr.1
  cases r with
  | among f es =>
    obtain ⟨h1, h2, h3⟩ := h
    simp [eR, ix_L (l := row) (i := f) (by omega), in_L (hs.small (hr.2 f h1)) fun a ha => hs.small (h3 a ha), holds]
  | mtch f k ps =>
    obtain ⟨h1, h2, h3, h4, h5⟩ := h
    simp [eR, ix_L (l := row) (i := f) (by omega), ix_L (l := row) (i := k) (by omega), in_Ps (hs.small (hr.2 f (by omega))) (hs.small (hr.2 k h2)) fun p hp => ⟨hs.small (h5 p hp).1, hs.small (h5 p hp).2⟩, holds, line]
  | eith f v k w =>
    obtain ⟨h1, h2, h3, h4⟩ := h
    by_cases e : vl row f = v
    · simp [eR, ix_L (l := row) (i := f) (by omega), ix_L (l := row) (i := k) (by omega), holds, e]
    · simp [eR, ix_L (l := row) (i := f) (by omega), ix_L (l := row) (i := k) (by omega), holds, e]
      rw [show (vl row f == v) = false by simpa using e]
      rfl
theorem holds_eq {T : Tbl} [Fc T "holds" p_holds] [Fc T "need_sheet" p_need_sheet] [Fc T "is_sheet" p_is_sheet] [Fc T "is_between" p_is_between] [Fc T "need_rule" p_need_rule] [Fc T "is_rule_of" p_is_rule_of] [Fc T "are_entries" p_are_entries] [Fc T "is_rising" p_is_rising] [Fc T "are_two_fields" p_are_two_fields] [Fc T "are_partners" p_are_partners] [Fc T "is_pair" p_is_pair] [Fc T "need_filling" p_need_filling] [Fc T "is_filling_of" p_is_filling_of] [Fc T "is_part_of" p_is_part_of] [Fc T "rule_holds" p_rule_holds] {n : Nat} {g : List GI} {ns row : List Nat} (hs : Sz ns) {r : Rule} (h : ROk ns r) (hr : Fill ns row) : callN T (n + 6) "holds" [.v (eL ns), .v (eR r), .v (eL row)] g = .ret (.v (.bl (holds r row))) [.v (eL ns), .v (eR r), .v (eL row)] g := by
  refine eq_of (run_in (Fc.at_ : T "holds" = some p_holds) rfl rfl ?_)
  simp [need_sheet_eq hs, need_rule_eq hs h, need_filling_eq hs hr, rule_holds_eq hs h hr]
def brk (B : List Rule) (row : List Nat) : List Nat := (List.range B.length).filter fun k => match B[k]? with | some r => !holds r row | none => false
theorem broken_eq {T : Tbl} [Fc T "broken" p_broken] [Fc T "need_sheet" p_need_sheet] [Fc T "is_sheet" p_is_sheet] [Fc T "is_between" p_is_between] [Fc T "need_book" p_need_book] [Fc T "is_book_of" p_is_book_of] [Fc T "is_rule_of" p_is_rule_of] [Fc T "are_entries" p_are_entries] [Fc T "is_rising" p_is_rising] [Fc T "are_two_fields" p_are_two_fields] [Fc T "are_partners" p_are_partners] [Fc T "is_pair" p_is_pair] [Fc T "need_filling" p_need_filling] [Fc T "is_filling_of" p_is_filling_of] [Fc T "is_part_of" p_is_part_of] [Fc T "rule_holds" p_rule_holds] {n : Nat} {g : List GI} {ns row : List Nat} (hs : Sz ns) {B : List Rule} (h : BOk ns B) (hl : B.length ≤ 1000) (hr : Fill ns row) : callN T (n + 7) "broken" [.v (eL ns), .v (eB B), .v (eL row)] g = .ret (.own (.lst (nL (brk B row)))) [.v (eL ns), .v (eB B), .v (eL row)] g := by
  refine eq_of (run_in (Fc.at_ : T "broken" = some p_broken) rfl rfl ?_)
  simp [need_sheet_eq hs, need_book_eq hs h hl, need_filling_eq hs hr, r_0 (n := B.length) (by omega)]
  refine lc_filter (fun k => match B[k]? with | some r => !holds r row | none => false) (fun (k : Nat) => .int k) (fun k hk => lcF_ok rfl ?_) ?_
  · have hk : k < B.length := List.mem_range.mp hk
    have e : B[k]? = some B[k] := by simp [hk]
    generalize B[k] = r at e
    simp [ix_B e, rule_holds_eq hs (h r (List.mem_of_getElem? e)) hr, e]
  · have := List.length_filter_le (fun k => match B[k]? with | some r => !holds r row | none => false) (List.range B.length)
    simp at this
    simp [brk]
    unfold line
    omega
def agr (p : List (Option Nat)) (row : List Nat) : Bool := (List.range p.length).all fun k => match ol p k with | none => true | some v => v == vl row k
theorem agrees_eq {T : Tbl} [Fc T "agrees" p_agrees] [Fc T "need_sheet" p_need_sheet] [Fc T "is_sheet" p_is_sheet] [Fc T "is_between" p_is_between] [Fc T "need_filling" p_need_filling] [Fc T "is_filling_of" p_is_filling_of] [Fc T "is_part_of" p_is_part_of] [Fc T "need_part" p_need_part] {n : Nat} {g : List GI} {ns row : List Nat} {p : List (Option Nat)} (hs : Sz ns) (hr : Fill ns row) (hp : Pt ns p) : callN T (n + 5) "agrees" [.v (eL ns), .v (eL row), .v (eT p)] g = .ret (.v (.bl (agr p row))) [.v (eL ns), .v (eL row), .v (eT p)] g := by
  refine eq_of (run_in (Fc.at_ : T "agrees" = some p_agrees) rfl rfl ?_)
  have h8 := hs.hi
  have hl := hp.len
  have hl2 := hr.1
  simp [need_sheet_eq hs, need_part_eq hs hp, need_filling_eq hs hr, r_0 (n := p.length) (by omega)]
  refine lc_map (fun k => .bl (match ol p k with | none => true | some v => v == vl row k)) (fun k hk => lcF_ok rfl ?_) ?_
  · have hk : k < p.length := List.mem_range.mp hk
    simp [ix_T hk]
    cases e : ol p k with
    | none => simp [eO]
    | some v => simp [eO, e, ix_T hk, ix_L (l := row) (i := k) (by omega)]; rfl
  · simp [agr, line]
    omega
theorem mixed_eq {T : Tbl} [Fc T "mixed" p_mixed] [Fc T "need_sheet" p_need_sheet] [Fc T "is_sheet" p_is_sheet] [Fc T "is_between" p_is_between] [Fc T "need_filling" p_need_filling] [Fc T "is_filling_of" p_is_filling_of] [Fc T "is_part_of" p_is_part_of] {n : Nat} {g : List GI} {ns a b c : List Nat} (hs : Sz ns) (ha : Fill ns a) (hb : Fill ns b) (hc : Fill ns c) : callN T (n + 5) "mixed" [.v (eL ns), .v (eL a), .v (eL b), .v (eL c)] g = .ret (.v (eL (mix a b c))) [.v (eL ns), .v (eL a), .v (eL b), .v (eL c)] g := by
  refine eq_of (run_in (Fc.at_ : T "mixed" = some p_mixed) rfl rfl ?_)
  have h8 := hs.hi
  have l1 := ha.1
  have l2 := hb.1
  have l3 := hc.1
  simp [need_sheet_eq hs, need_filling_eq hs ha, need_filling_eq hs hb, need_filling_eq hs hc, r_0 (n := ns.length) (by omega)]
  refine lc_map (fun (k : Nat) => .int (mixAt a b c k)) (fun k hk => lcF_ok rfl ?_) ?_
  · have hk : k < ns.length := List.mem_range.mp hk
    by_cases e : vl a k = vl b k <;> simp [ix_L (l := a) (i := k) (by omega), ix_L (l := b) (i := k) (by omega), ix_L (l := c) (i := k) (by omega), e, mixAt]
  · simp [mix, eL, l1, Function.comp_def, line]
    omega
@[simp] theorem eP_mk {a b : Nat} : PV.tup [.int a, .int b] = eP (a, b) := rfl
@[simp] theorem stTg_P {C : Ctx} {i j : Nat} {p : Nat × Nat} {st : ST} : stTg C (.t [i, j]) (eP p) st = if roAny C [i, j] then none else some ((st.put i (some (.v (.int p.1)))).put j (some (.v (.int p.2)))) := rfl
@[simp] theorem putTo_P {i j : Nat} {p : Nat × Nat} {st : ST} : putTo (.t [i, j]) (eP p) st = some ((st.put i (some (.v (.int p.1)))).put j (some (.v (.int p.2)))) := rfl
@[simp] theorem isn_P {p : Nat × Nat} : isNone (.v (eP p)) = false := rfl
@[simp] theorem isn_L {p : List Nat} : isNone (.v (eL p)) = false := rfl
@[simp] theorem isn_T {p : List (Option Nat)} : isNone (.v (eT p)) = false := rfl
@[simp] theorem isn_O {l : Option Nat} : isNone (.v (eO l)) = l.isNone := by cases l <;> rfl
end Q
end
section
set_option maxHeartbeats 4000000
namespace Q
open PySem Q.M
/-! ### sorted(set(..)) of numbers and of pairs -/
def sortN (l : List Nat) : List Nat := (sortI (l.map fun (n : Nat) => (n : Int))).map Int.toNat
theorem sortN_cast (l : List Nat) : (sortN l).map (fun (n : Nat) => (n : Int)) = sortI (l.map fun (n : Nat) => (n : Int)) := by
  unfold sortN
  rw [List.map_map]
  conv => rhs; rw [← List.map_id (sortI _)]
  refine List.map_congr_left fun x hx => ?_
  obtain ⟨n, _, rfl⟩ := List.mem_map.mp (sortI_mem.mp hx)
  rfl
theorem sortN_mem {l : List Nat} {a : Nat} : a ∈ sortN l ↔ a ∈ l := by
  unfold sortN
  rw [List.mem_map]
  constructor
  · rintro ⟨x, hx, rfl⟩
    obtain ⟨n, hn, rfl⟩ := List.mem_map.mp (sortI_mem.mp hx)
    exact hn
  · exact fun h => ⟨a, sortI_mem.mpr (List.mem_map_of_mem (f := fun (n : Nat) => (n : Int)) h), rfl⟩
theorem sortN_asc (l : List Nat) : (sortN l).Pairwise (· < ·) := by
  have h := sortI_sorted (l.map fun (n : Nat) => (n : Int))
  rw [← sortN_cast, List.pairwise_map] at h
  exact h.imp fun h => by omega
theorem asc_nodup {l : List Nat} (h : l.Pairwise (· < ·)) : l.Nodup := h.imp fun h => by omega
theorem asc_ext_nat {l k : List Nat} (h1 : l.Pairwise (· < ·)) (h2 : k.Pairwise (· < ·)) (h : ∀ x, x ∈ l ↔ x ∈ k) : l = k :=
  asc_ext (R := (· < ·)) (fun a => by omega) (fun a b h => by omega) h1 h2 h
theorem sorted_N {l : List Nat} (h : l.length < 64) {x : DV} (hx : x.lst = some (nL l)) : bltO .sortedSet [x] = some (.own (.lst (nL (sortN l)))) := by
  have e : bltO .sortedSet [x] = x.lst.bind fun xs => match intsOf xs with
    | some ns => if ns.length < 64 then some (.own (.lst ((sortI ns).map .int))) else none
    | none => match tupsOf xs with
      | some ts => if tupsOk ts then some (.own (.lst ((sortT ts).map fun t => .tup (t.map .int)))) else none
      | none => none := by cases x <;> rfl
  rw [e, hx, Option.bind_some, ints_nat]
  dsimp only
  rw [if_pos (by simpa using h), ← sortN_cast, List.map_map]
  rfl
abbrev Pr := Nat × Nat
def pLt (p q : Pr) : Prop := p.1 < q.1 ∨ (p.1 = q.1 ∧ p.2 < q.2)
def pL (p : Pr) : List Int := [(p.1 : Int), (p.2 : Int)]
theorem pL_inj {p q : Pr} (h : pL p = pL q) : p = q := by
  simp [pL] at h
  exact Prod.ext h.1 h.2
theorem pL_lt {p q : Pr} : HT.lexLt (pL p) (pL q) = true ↔ pLt p q := by
  unfold pL pLt
  rw [HT.lexLt_cons]
  by_cases h : (p.1 : Int) = q.1
  · rw [if_pos h, HT.lexLt_cons]
    have h : p.1 = q.1 := by omega
    by_cases h2 : (p.2 : Int) = q.2
    · rw [if_pos h2]
      have h2 : p.2 = q.2 := by omega
      simp [h, h2, HT.lexLt]
    · rw [if_neg h2]
      simp [h]
  · rw [if_neg h]
    have h : p.1 ≠ q.1 := by omega
    simp [h]
def lP (l : List Int) : Pr := ((l.getD 0 0).toNat, (l.getD 1 0).toNat)
def sortP (l : List Pr) : List Pr := (sortT (l.map pL)).map lP
theorem lP_pL (p : Pr) : lP (pL p) = p := by simp [lP, pL]
theorem sortP_cast (l : List Pr) : (sortP l).map pL = sortT (l.map pL) := by
  unfold sortP
  rw [List.map_map]
  conv => rhs; rw [← List.map_id (sortT _)]
  refine List.map_congr_left fun x hx => ?_
  obtain ⟨p, _, rfl⟩ := List.mem_map.mp (sortT_mem.mp hx)
  simp [lP_pL]
theorem sortP_mem {l : List Pr} {a : Pr} : a ∈ sortP l ↔ a ∈ l := by
  unfold sortP
  rw [List.mem_map]
  constructor
  · rintro ⟨x, hx, rfl⟩
    obtain ⟨p, hp, rfl⟩ := List.mem_map.mp (sortT_mem.mp hx)
    rw [lP_pL]
    exact hp
  · exact fun h => ⟨pL a, sortT_mem.mpr (List.mem_map_of_mem h), lP_pL a⟩
theorem sortP_asc (l : List Pr) : (sortP l).Pairwise pLt := by
  have h := sortT_sorted (l.map pL)
  rw [← sortP_cast, List.pairwise_map] at h
  exact h.imp fun h => pL_lt.mp h
theorem pLt_irr (p : Pr) : ¬ pLt p p := by unfold pLt; omega
theorem pLt_asy {p q : Pr} (h : pLt p q) : ¬ pLt q p := by unfold pLt at *; omega
theorem pasc_ext {l k : List Pr} (h1 : l.Pairwise pLt) (h2 : k.Pairwise pLt) (h : ∀ x, x ∈ l ↔ x ∈ k) : l = k := asc_ext (R := pLt) pLt_irr (fun _ _ h => pLt_asy h) h1 h2 h
theorem pasc_nodup {l : List Pr} (h : l.Pairwise pLt) : l.Nodup := h.imp fun h e => by subst e; exact pLt_irr _ h
theorem tups_P : ∀ l : List Pr, tupsOf (l.map eP) = some (l.map pL)
  | [] => rfl
  | p :: l => by
    have e : tupsOf (eP p :: l.map eP) = match intsOf [.int p.1, .int p.2], tupsOf (l.map eP) with
      | some a, some b => some (a :: b)
      | _, _ => none := rfl
    rw [List.map_cons, e, tups_P l]
    rfl
theorem sorted_P {l : List Pr} (h : l.length < 64) (h2 : ∀ p ∈ l, p.1 < 64 ∧ p.2 < 64) {x : DV} (hx : x.lst = some (l.map eP)) : bltO .sortedSet [x] = some (.own (.lst ((sortP l).map eP))) := by
  have e : bltO .sortedSet [x] = x.lst.bind fun xs => match intsOf xs with
    | some ns => if ns.length < 64 then some (.own (.lst ((sortI ns).map .int))) else none
    | none => match tupsOf xs with
      | some ts => if tupsOk ts then some (.own (.lst ((sortT ts).map fun t => .tup (t.map .int)))) else none
      | none => none := by cases x <;> rfl
  rw [e, hx, Option.bind_some]
  cases l with
  | nil => rfl
  | cons p r =>
    have e1 : intsOf ((p :: r).map eP) = none := rfl
    rw [e1]
    dsimp only
    rw [tups_P]
    dsimp only
    have e2 : tupsOk ((p :: r).map pL) = true := by
      unfold tupsOk
      simp only [List.map_cons, List.length_cons, List.length_map, Bool.and_eq_true, decide_eq_true_eq, List.all_eq_true]
      refine ⟨by simpa using h, by simp [pL], fun u hu => ?_⟩
      rcases List.mem_cons.mp hu with rfl | hu
      · refine ⟨rfl, fun i hi => ?_⟩
        have := h2 p (List.mem_cons_self ..)
        simp [pL] at hi
        omega
      · obtain ⟨t, ht, rfl⟩ := List.mem_map.mp hu
        refine ⟨rfl, fun i hi => ?_⟩
        have := h2 t (List.mem_cons_of_mem _ ht)
        simp [pL] at hi
        omega
    rw [if_pos e2, ← sortP_cast, List.map_map]
    rfl
theorem dedup_lt2 {l : List Nat} (h : ¬ l.Nodup) : (dedup (l.map fun (n : Nat) => (n : Int))).length < l.length := by
  induction l with
  | nil => exact absurd List.Pairwise.nil h
  | cons a r ih =>
    rw [List.map_cons, dedup, List.length_cons, List.length_cons]
    have le := dedup_le (r.map fun (n : Nat) => (n : Int))
    rw [List.length_map] at le
    by_cases q : r.Nodup
    · have ha : a ∈ r := by
        by_cases z : a ∈ r
        · exact z
        · exact absurd (List.nodup_cons.mpr ⟨z, q⟩) h
      have m : (a : Int) ∈ dedup (r.map fun (n : Nat) => (n : Int)) := dedup_mem.mpr (List.mem_map_of_mem (f := fun (n : Nat) => (n : Int)) ha)
      have := List.length_filter_lt_length_iff_exists (p := fun (y : Int) => y != (a : Int)).mpr ⟨(a : Int), m, by simp⟩
      omega
    · have := ih q
      have := List.length_filter_le (fun (y : Int) => y != (a : Int)) (dedup (r.map fun (n : Nat) => (n : Int)))
      omega
/-- len(set(..)) -/
def nd (l : List Nat) : Bool := decide l.Nodup
theorem lenSet_eq {l : List Nat} (h : l.length < 64) {x : DV} (hx : x.lst = some (nL l)) : ∃ k : Nat, bltO .lenSet [x] = some (.v (.int k)) ∧ decide (k = l.length) = nd l ∧ k ≤ l.length ∧ (k < l.length ↔ nd l = false) := by
  have e : bltO .lenSet [x] = some (.v (.int (dedup (l.map fun (n : Nat) => (n : Int))).length)) := by
    have e : bltO .lenSet [x] = x.lst.bind fun xs => match intsOf xs with
      | some ns => if ns.length < 64 then some (.v (.int (dedup ns).length)) else none
      | none => match tupsOf xs with
        | some ts => if ts.length < 64 then some (.v (.int (dedupT ts).length)) else none
        | none => none := by cases x <;> rfl
    rw [e, hx, Option.bind_some, ints_nat]
    dsimp only
    rw [if_pos (by simpa using h)]
  refine ⟨_, e, ?_⟩
  unfold nd
  by_cases q : l.Nodup
  · rw [dedup_of (nodup_cast q)]
    simp [q]
  · have := dedup_lt2 q
    simp [q]
    omega
end Q
end
section
namespace Q
def h_pouch : Fn := ⟨2, 1, [], .cons (.asg (.v 1) (.c (.int 0))) (.cons (.ife (.e (.cmp .Gt (.var 0) (.bin .Pow (.c (.int 10)) (.c (.int 18))))) (.cons (.asg (.v 1) (.bin .Sub (.var 0) (.bin .Pow (.c (.int 10)) (.c (.int 18))))) .nil) .nil) (.cons (.ret (.lst (.cons (.var 1) (.cons (.bin .Mod (.blt .int (.cons (.var 0) .nil)) (.c (.int 999999999999999989))) (.cons (.c (.int 0)) .nil))))) .nil))⟩
def h_take : Fn := ⟨6, 2, [], .cons (.ife (.e (.cmp .Gt (.idx (.var 0) (.c (.int 0))) (.c (.int 0)))) (.cons (.asg (.v 2) (.bin .Mod (.blt .int (.cons (.idx (.var 0) (.c (.int 0))) .nil)) (.var 1))) (.cons (.sub 0 (.c (.int 0)) (.bin .FloorDiv (.idx (.var 0) (.c (.int 0))) (.var 1))) (.cons (.ret (.var 2)) .nil))) .nil) (.cons (.sub 0 (.c (.int 2)) (.bin .Add (.idx (.var 0) (.c (.int 2))) (.c (.int 1)))) (.cons (.par [3, 4] (.cons (.idx (.var 0) (.c (.int 1))) (.cons (.idx (.var 0) (.c (.int 2))) .nil))) (.cons (.asg (.v 5) (.bin .Mod (.blt .int (.cons (.bin .Mult (.bin .Add (.var 3) (.bin .Mult (.c (.int 5)) (.var 4))) (.bin .Add (.bin .Add (.var 3) (.bin .Mult (.bin .Mult (.c (.int 10007)) (.var 4)) (.var 4))) (.c (.int 71)))) .nil)) (.c (.int 9999999999999937)))) (.cons (.asg (.v 5) (.bin .Mod (.blt .int (.cons (.bin .Add (.bin .Add (.bin .Mult (.bin .Mult (.var 5) (.var 5)) (.var 5)) (.bin .Mult (.c (.int 40961)) (.var 5))) (.bin .Mult (.c (.int 977)) (.var 4))) .nil)) (.c (.int 999999999989)))) (.cons (.ret (.bin .Mod (.bin .FloorDiv (.var 5) (.c (.int 4096))) (.var 1))) .nil)))))⟩
def h_draw_sizes : Fn := ⟨6, 3, [], .cons (.asg (.v 3) (.call "_law_take" (.cons (.var 0) (.cons (.c (.int 4)) .nil)))) (.cons (.ife (.e (.cmp .Eq (.var 3) (.c (.int 0)))) (.cons (.ret (.bin .Mult (.tup (.cons (.var 2) .nil)) (.var 1))) .nil) .nil) (.cons (.asg (.v 4) (.ifx (.e (.cmp .Eq (.var 3) (.c (.int 1)))) (.var 1) (.bin .Add (.c (.int 1)) (.call "_law_take" (.cons (.var 0) (.cons (.var 1) .nil)))))) (.cons (.ife (.e (.cmp .Eq (.var 3) (.c (.int 2)))) (.cons (.ret (.bin .Mult (.tup (.cons (.bin .Add (.c (.int 1)) (.call "_law_take" (.cons (.var 0) (.cons (.var 2) .nil)))) .nil)) (.var 4))) .nil) .nil) (.cons (.ret (.blt .tuple (.cons (.lc [5] (.v 5) (.rng1 (.var 4)) .tt (.bin .Add (.c (.int 1)) (.call "_law_take" (.cons (.var 0) (.cons (.var 2) .nil))))) .nil))) .nil))))⟩
def h_draw_row : Fn := ⟨3, 2, [], .cons (.ret (.blt .tuple (.cons (.lc [2] (.v 2) (.seq (.var 1)) .tt (.call "_law_take" (.cons (.var 0) (.cons (.var 2) .nil)))) .nil))) .nil⟩
def h_draw_table : Fn := ⟨7, 3, [], .cons (.asg (.v 3) (.call "_law_take" (.cons (.var 0) (.cons (.c (.int 4)) .nil)))) (.cons (.asg (.v 4) (.lc [5] (.v 5) (.rng1 (.var 2)) .tt (.var 5))) (.cons (.asg (.v 6) (.lst .nil)) (.cons (.for_ (.v 5) (.rng1 (.var 1)) (.cons (.ife (.and (.e (.cmp .NotEq (.var 4) (.lst .nil))) (.or (.e (.cmp .Eq (.var 3) (.c (.int 0)))) (.e (.cmp .Gt (.call "_law_take" (.cons (.var 0) (.cons (.c (.int 4)) .nil))) (.c (.int 0)))))) (.cons (.ex (.mut .append 6 (.cons (.tup (.cons (.var 5) (.cons (.mut .popAt 4 (.cons (.call "_law_take" (.cons (.var 0) (.cons (.blt .len (.cons (.var 4) .nil)) .nil))) .nil)) .nil))) .nil))) .nil) .nil) .nil)) (.cons (.ret (.blt .tuple (.cons (.var 6) .nil))) .nil))))⟩
def h_draw_clause : Fn := ⟨8, 2, [], .cons (.asg (.v 2) (.call "_law_take" (.cons (.var 0) (.cons (.c (.int 7)) .nil)))) (.cons (.asg (.v 3) (.call "_law_take" (.cons (.var 0) (.cons (.blt .len (.cons (.var 1) .nil)) .nil)))) (.cons (.ife (.or (.e (.cmp .Lt (.var 2) (.c (.int 2)))) (.e (.cmp .Eq (.blt .len (.cons (.var 1) .nil)) (.c (.int 1))))) (.cons (.asg (.v 4) (.call "_law_take" (.cons (.var 0) (.cons (.c (.int 8)) .nil)))) (.cons (.asg (.v 5) (.lst .nil)) (.cons (.for_ (.v 6) (.rng1 (.idx (.var 1) (.var 3))) (.cons (.ife (.or (.e (.cmp .Eq (.var 4) (.c (.int 1)))) (.and (.e (.cmp .Gt (.var 4) (.c (.int 1)))) (.e (.cmp .Gt (.call "_law_take" (.cons (.var 0) (.cons (.c (.int 4)) .nil))) (.c (.int 0)))))) (.cons (.ex (.mut .append 5 (.cons (.var 6) .nil))) .nil) .nil) .nil)) (.cons (.ret (.tup (.cons (.c (.str "among")) (.cons (.var 3) (.cons (.blt .tuple (.cons (.var 5) .nil)) .nil))))) .nil)))) .nil) (.cons (.asg (.v 7) (.bin .Mod (.blt .int (.cons (.bin .Add (.bin .Add (.var 3) (.c (.int 1))) (.call "_law_take" (.cons (.var 0) (.cons (.bin .Sub (.blt .len (.cons (.var 1) .nil)) (.c (.int 1))) .nil)))) .nil)) (.blt .len (.cons (.var 1) .nil)))) (.cons (.ife (.e (.cmp .Lt (.var 7) (.var 3))) (.cons (.par [3, 7] (.cons (.var 7) (.cons (.var 3) .nil))) .nil) .nil) (.cons (.ife (.e (.cmp .Lt (.var 2) (.c (.int 4)))) (.cons (.ret (.tup (.cons (.c (.str "match")) (.cons (.var 3) (.cons (.var 7) (.cons (.call "_law_draw_table" (.cons (.var 0) (.cons (.idx (.var 1) (.var 3)) (.cons (.idx (.var 1) (.var 7)) .nil)))) .nil)))))) .nil) .nil) (.cons (.ret (.tup (.cons (.c (.str "either")) (.cons (.var 3) (.cons (.call "_law_take" (.cons (.var 0) (.cons (.idx (.var 1) (.var 3)) .nil))) (.cons (.var 7) (.cons (.call "_law_take" (.cons (.var 0) (.cons (.idx (.var 1) (.var 7)) .nil))) .nil))))))) .nil))))))⟩
def h_draw_clauses : Fn := ⟨7, 3, [], .cons (.asg (.v 3) (.call "_law_take" (.cons (.var 0) (.cons (.c (.int 5)) .nil)))) (.cons (.asg (.v 4) (.ifx (.e (.cmp .Eq (.var 3) (.c (.int 0)))) (.var 2) (.call "_law_take" (.cons (.var 0) (.cons (.bin .Add (.var 2) (.c (.int 1))) .nil))))) (.cons (.ife (.e (.cmp .Eq (.var 3) (.c (.int 1)))) (.cons (.asg (.v 4) (.call "_law_take" (.cons (.var 0) (.cons (.c (.int 4)) .nil)))) .nil) .nil) (.cons (.asg (.v 5) (.lc [6] (.v 6) (.rng1 (.var 4)) .tt (.call "_law_draw_clause" (.cons (.var 0) (.cons (.var 1) .nil))))) (.cons (.ife (.and (.e (.cmp .Eq (.var 3) (.c (.int 2)))) (.e (.cmp .Gt (.var 4) (.c (.int 1))))) (.cons (.sub 5 (.bin .Sub (.var 4) (.c (.int 1))) (.idx (.var 5) (.call "_law_take" (.cons (.var 0) (.cons (.bin .Sub (.var 4) (.c (.int 1))) .nil))))) .nil) .nil) (.cons (.ret (.blt .tuple (.cons (.var 5) .nil))) .nil)))))⟩
def h_test : Fn := ⟨5, 2, [], .cons (.ife (.e (.cmp .Eq (.idx (.var 0) (.c (.int 0))) (.c (.str "among")))) (.cons (.ret (.cmp .NotEq (.lc [2] (.v 2) (.seq (.idx (.var 0) (.c (.int 2)))) (.e (.cmp .Eq (.idx (.var 1) (.idx (.var 0) (.c (.int 1)))) (.var 2))) (.var 2)) (.lst .nil))) .nil) .nil) (.cons (.ife (.e (.cmp .Eq (.idx (.var 0) (.c (.int 0))) (.c (.str "match")))) (.cons (.ret (.cmp .NotEq (.lc [3, 4] (.t [3, 4]) (.seq (.idx (.var 0) (.c (.int 3)))) (.and (.e (.cmp .Eq (.idx (.var 1) (.idx (.var 0) (.c (.int 1)))) (.var 3))) (.e (.cmp .Eq (.idx (.var 1) (.idx (.var 0) (.c (.int 2)))) (.var 4)))) (.var 3)) (.lst .nil))) .nil) .nil) (.cons (.ret (.not (.and (.cmp .NotEq (.idx (.var 1) (.idx (.var 0) (.c (.int 1)))) (.idx (.var 0) (.c (.int 2)))) (.cmp .NotEq (.idx (.var 1) (.idx (.var 0) (.c (.int 3)))) (.idx (.var 0) (.c (.int 4))))))) .nil))⟩
def h_named_pair : Fn := ⟨1, 1, [], .cons (.ife (.e (.cmp .Eq (.idx (.var 0) (.c (.int 0))) (.c (.str "among")))) (.cons (.ret (.tup (.cons (.idx (.var 0) (.c (.int 1))) (.cons (.idx (.var 0) (.c (.int 1))) .nil)))) .nil) .nil) (.cons (.ret (.ifx (.e (.cmp .Eq (.idx (.var 0) (.c (.int 0))) (.c (.str "match")))) (.tup (.cons (.idx (.var 0) (.c (.int 1))) (.cons (.idx (.var 0) (.c (.int 2))) .nil))) (.tup (.cons (.idx (.var 0) (.c (.int 1))) (.cons (.idx (.var 0) (.c (.int 3))) .nil))))) .nil)⟩
def h_one_to_one : Fn := ⟨5, 1, [], .cons (.par [1, 2] (.cons (.lc [3, 4] (.t [3, 4]) (.seq (.var 0)) .tt (.var 3)) (.cons (.lc [3, 4] (.t [3, 4]) (.seq (.var 0)) .tt (.var 4)) .nil))) (.cons (.ret (.and (.cmp .Eq (.blt .lenSet (.cons (.var 1) .nil)) (.blt .len (.cons (.var 1) .nil))) (.cmp .Eq (.blt .lenSet (.cons (.var 2) .nil)) (.blt .len (.cons (.var 2) .nil))))) .nil)⟩
def h_widen : Fn := ⟨12, 2, [], .cons (.asg (.t [2, 3]) (.call "_law_named_pair" (.cons (.var 0) .nil))) (.cons (.ife (.e (.cmp .Eq (.lc [11] (.v 11) (.seq (.var 1)) (.not (.e (.call "_law_test" (.cons (.var 0) (.cons (.var 11) .nil))))) (.var 11)) (.lst .nil))) (.cons (.ret (.var 0)) .nil) .nil) (.cons (.asg (.v 4) (.blt .sortedSet (.cons (.lc [11] (.v 11) (.seq (.var 1)) .tt (.tup (.cons (.idx (.var 11) (.var 2)) (.cons (.idx (.var 11) (.var 3)) .nil)))) .nil))) (.cons (.ife (.and (.e (.cmp .Eq (.idx (.var 0) (.c (.int 0))) (.c (.str "match")))) (.e (.call "_law_one_to_one" (.cons (.var 4) .nil)))) (.cons (.for_ (.v 5) (.seq (.idx (.var 0) (.c (.int 3)))) (.cons (.ife (.e (.call "_law_one_to_one" (.cons (.bin .Add (.var 4) (.lst (.cons (.var 5) .nil))) .nil))) (.cons (.asg (.v 4) (.bin .Add (.var 4) (.lst (.cons (.var 5) .nil)))) .nil) .nil) .nil)) (.cons (.ret (.tup (.cons (.c (.str "match")) (.cons (.var 2) (.cons (.var 3) (.cons (.blt .tuple (.cons (.blt .sortedSet (.cons (.var 4) .nil)) .nil)) .nil)))))) .nil)) .nil) (.cons (.ife (.e (.cmp .NotEq (.idx (.var 0) (.c (.int 0))) (.c (.str "among")))) (.cons (.for_ (.t [6, 7]) (.seq (.var 4)) (.cons (.for_ (.t [8, 9]) (.seq (.var 4)) (.cons (.ife (.e (.cmp .Eq (.lc [5] (.v 5) (.seq (.var 4)) (.and (.e (.cmp .NotEq (.idx (.var 5) (.c (.int 0))) (.var 6))) (.e (.cmp .NotEq (.idx (.var 5) (.c (.int 1))) (.var 9)))) (.var 5)) (.lst .nil))) (.cons (.ret (.tup (.cons (.c (.str "either")) (.cons (.var 2) (.cons (.var 6) (.cons (.var 3) (.cons (.var 9) .nil))))))) .nil) .nil) .nil)) .nil)) .nil) .nil) (.cons (.asg (.v 10) (.ifx (.e (.cmp .Eq (.idx (.var 0) (.c (.int 0))) (.c (.str "among")))) (.blt .list (.cons (.idx (.var 0) (.c (.int 2))) .nil)) (.lst .nil))) (.cons (.ret (.tup (.cons (.c (.str "among")) (.cons (.var 2) (.cons (.blt .tuple (.cons (.blt .sortedSet (.cons (.bin .Add (.var 10) (.lc [6, 9] (.t [6, 9]) (.seq (.var 4)) .tt (.var 6))) .nil)) .nil)) .nil))))) .nil))))))⟩
def h_draw_kept : Fn := ⟨7, 4, [], .cons (.asg (.v 4) (.call "_law_take" (.cons (.var 0) (.cons (.c (.int 3)) .nil)))) (.cons (.asg (.v 5) (.ifx (.e (.cmp .Eq (.var 4) (.c (.int 0)))) (.var 3) (.call "_law_take" (.cons (.var 0) (.cons (.bin .Add (.var 3) (.c (.int 1))) .nil))))) (.cons (.ret (.blt .tuple (.cons (.lc [6] (.v 6) (.rng1 (.var 5)) .tt (.call "_law_widen" (.cons (.call "_law_draw_clause" (.cons (.var 0) (.cons (.var 1) .nil))) (.cons (.var 2) .nil)))) .nil))) .nil))⟩
def h_told_by_two : Fn := ⟨9, 3, [], .cons (.asg (.v 3) (.lst .nil)) (.cons (.for_ (.v 4) (.rng1 (.blt .len (.cons (.var 0) .nil))) (.cons (.asg (.v 5) (.blt .sortedSet (.cons (.lst (.cons (.idx (.var 1) (.var 4)) (.cons (.idx (.var 2) (.var 4)) .nil))) .nil))) (.cons (.ife (.e (.cmp .Lt (.blt .len (.cons (.var 5) .nil)) (.idx (.var 0) (.var 4)))) (.cons (.ex (.mut .append 3 (.cons (.tup (.cons (.c (.str "among")) (.cons (.var 4) (.cons (.blt .tuple (.cons (.var 5) .nil)) .nil)))) .nil))) .nil) .nil) .nil))) (.cons (.for_ (.v 6) (.rng1 (.blt .len (.cons (.var 0) .nil))) (.cons (.for_ (.v 7) (.rng2 (.bin .Add (.var 6) (.c (.int 1))) (.blt .len (.cons (.var 0) .nil))) (.cons (.asg (.v 8) (.blt .sortedSet (.cons (.lst (.cons (.tup (.cons (.idx (.var 1) (.var 6)) (.cons (.idx (.var 1) (.var 7)) .nil))) (.cons (.tup (.cons (.idx (.var 2) (.var 6)) (.cons (.idx (.var 2) (.var 7)) .nil))) .nil))) .nil))) (.cons (.ife (.and (.e (.cmp .NotEq (.idx (.var 1) (.var 6)) (.idx (.var 2) (.var 6)))) (.e (.cmp .NotEq (.idx (.var 1) (.var 7)) (.idx (.var 2) (.var 7))))) (.cons (.ex (.mut .append 3 (.cons (.tup (.cons (.c (.str "match")) (.cons (.var 6) (.cons (.var 7) (.cons (.blt .tuple (.cons (.var 8) .nil)) .nil))))) .nil))) .nil) .nil) .nil))) .nil)) (.cons (.ret (.blt .tuple (.cons (.var 3) .nil))) .nil)))⟩
def h_draw_partial : Fn := ⟨5, 2, [], .cons (.asg (.v 2) (.call "_law_take" (.cons (.var 0) (.cons (.c (.int 4)) .nil)))) (.cons (.asg (.v 3) (.lst .nil)) (.cons (.for_ (.v 4) (.seq (.var 1)) (.cons (.ife (.or (.e (.cmp .Eq (.var 2) (.c (.int 0)))) (.e (.cmp .Lt (.call "_law_take" (.cons (.var 0) (.cons (.c (.int 4)) .nil))) (.bin .Sub (.var 2) (.c (.int 1)))))) (.cons (.ex (.mut .append 3 (.cons (.c .non) .nil))) .nil) (.cons (.ex (.mut .append 3 (.cons (.call "_law_take" (.cons (.var 0) (.cons (.var 4) .nil))) .nil))) .nil)) .nil)) (.cons (.ret (.blt .tuple (.cons (.var 3) .nil))) .nil)))⟩
def h_near : Fn := ⟨6, 3, [], .cons (.asg (.v 3) (.bin .Add (.c (.int 1)) (.call "_law_take" (.cons (.var 0) (.cons (.c (.int 3)) .nil))))) (.cons (.asg (.v 4) (.lst .nil)) (.cons (.for_ (.v 5) (.rng1 (.blt .len (.cons (.var 1) .nil))) (.cons (.ife (.e (.cmp .Lt (.call "_law_take" (.cons (.var 0) (.cons (.c (.int 4)) .nil))) (.var 3))) (.cons (.ex (.mut .append 4 (.cons (.call "_law_take" (.cons (.var 0) (.cons (.idx (.var 1) (.var 5)) .nil))) .nil))) .nil) (.cons (.ex (.mut .append 4 (.cons (.idx (.var 2) (.var 5)) .nil))) .nil)) .nil)) (.cons (.ret (.blt .tuple (.cons (.var 4) .nil))) .nil)))⟩
def h_draw_small : Fn := ⟨7, 2, [], .cons (.asg (.v 2) (.bin .Add (.c (.int 1)) (.call "_law_take" (.cons (.var 0) (.cons (.c (.int 8)) .nil))))) (.cons (.par [3, 4] (.cons (.lst .nil) (.cons (.c (.int 1)) .nil))) (.cons (.for_ (.v 5) (.rng1 (.var 2)) (.cons (.asg (.v 6) (.bin .Add (.c (.int 1)) (.call "_law_take" (.cons (.var 0) (.cons (.c (.int 5)) .nil))))) (.cons (.whl (.e (.cmp .Gt (.bin .Mult (.var 4) (.var 6)) (.var 1))) (.cons (.asg (.v 6) (.bin .Sub (.var 6) (.c (.int 1)))) .nil)) (.cons (.asg (.v 4) (.bin .Mult (.var 4) (.var 6))) (.cons (.ex (.mut .append 3 (.cons (.var 6) .nil))) .nil))))) (.cons (.ret (.blt .tuple (.cons (.var 3) .nil))) .nil)))⟩
def h_all_rows : Fn := ⟨6, 1, [], .cons (.asg (.v 1) (.lst (.cons (.tup .nil) .nil))) (.cons (.for_ (.v 2) (.seq (.var 0)) (.cons (.asg (.v 3) (.lst .nil)) (.cons (.for_ (.v 4) (.seq (.var 1)) (.cons (.asg (.v 3) (.bin .Add (.var 3) (.lc [5] (.v 5) (.rng1 (.var 2)) .tt (.bin .Add (.var 4) (.tup (.cons (.var 5) .nil)))))) .nil)) (.cons (.asg (.v 1) (.var 3)) .nil)))) (.cons (.ret (.var 1)) .nil))⟩
def h_keeps : Fn := ⟨3, 2, [], .cons (.ret (.cmp .Eq (.lc [2] (.v 2) (.seq (.var 0)) (.not (.e (.call "_law_test" (.cons (.var 2) (.cons (.var 1) .nil))))) (.var 2)) (.lst .nil))) .nil⟩
def h_forces : Fn := ⟨6, 3, [], .cons (.asg (.v 3) (.lst .nil)) (.cons (.ife (.e (.cmp .Eq (.idx (.var 0) (.c (.int 0))) (.c (.str "match")))) (.cons (.for_ (.t [4, 5]) (.seq (.idx (.var 0) (.c (.int 3)))) (.cons (.ife (.e (.cmp .Eq (.tup (.cons (.var 1) (.cons (.var 2) .nil))) (.tup (.cons (.idx (.var 0) (.c (.int 1))) (.cons (.var 4) .nil))))) (.cons (.ex (.mut .append 3 (.cons (.tup (.cons (.idx (.var 0) (.c (.int 2))) (.cons (.var 5) .nil))) .nil))) .nil) .nil) (.cons (.ife (.e (.cmp .Eq (.tup (.cons (.var 1) (.cons (.var 2) .nil))) (.tup (.cons (.idx (.var 0) (.c (.int 2))) (.cons (.var 5) .nil))))) (.cons (.ex (.mut .append 3 (.cons (.tup (.cons (.idx (.var 0) (.c (.int 1))) (.cons (.var 4) .nil))) .nil))) .nil) .nil) .nil))) .nil) .nil) (.cons (.ife (.and (.e (.cmp .Eq (.idx (.var 0) (.c (.int 0))) (.c (.str "either")))) (.and (.e (.cmp .Eq (.var 1) (.idx (.var 0) (.c (.int 1))))) (.e (.cmp .NotEq (.var 2) (.idx (.var 0) (.c (.int 2))))))) (.cons (.ex (.mut .append 3 (.cons (.tup (.cons (.idx (.var 0) (.c (.int 3))) (.cons (.idx (.var 0) (.c (.int 4))) .nil))) .nil))) .nil) .nil) (.cons (.ife (.and (.e (.cmp .Eq (.idx (.var 0) (.c (.int 0))) (.c (.str "either")))) (.and (.e (.cmp .Eq (.var 1) (.idx (.var 0) (.c (.int 3))))) (.e (.cmp .NotEq (.var 2) (.idx (.var 0) (.c (.int 4))))))) (.cons (.ex (.mut .append 3 (.cons (.tup (.cons (.idx (.var 0) (.c (.int 1))) (.cons (.idx (.var 0) (.c (.int 2))) .nil))) .nil))) .nil) .nil) (.cons (.ret (.var 3)) .nil))))⟩
def h_bars : Fn := ⟨5, 3, [], .cons (.ife (.e (.cmp .Eq (.idx (.var 0) (.c (.int 0))) (.c (.str "among")))) (.cons (.ret (.and (.cmp .Eq (.var 1) (.idx (.var 0) (.c (.int 1)))) (.cmp .NotIn (.var 2) (.idx (.var 0) (.c (.int 2)))))) .nil) .nil) (.cons (.ife (.e (.cmp .Eq (.idx (.var 0) (.c (.int 0))) (.c (.str "either")))) (.cons (.ret (.c (.bl false))) .nil) .nil) (.cons (.ife (.e (.cmp .Eq (.var 1) (.idx (.var 0) (.c (.int 1))))) (.cons (.ret (.cmp .NotIn (.var 2) (.lc [3, 4] (.t [3, 4]) (.seq (.idx (.var 0) (.c (.int 3)))) .tt (.var 3)))) .nil) .nil) (.cons (.ret (.and (.cmp .Eq (.var 1) (.idx (.var 0) (.c (.int 2)))) (.cmp .NotIn (.var 2) (.lc [3, 4] (.t [3, 4]) (.seq (.idx (.var 0) (.c (.int 3)))) .tt (.var 4))))) .nil)))⟩
def h_arrive : Fn := ⟨6, 2, [], .cons (.asg (.v 2) (.blt .list (.cons (.var 1) .nil))) (.cons (.asg (.v 3) (.c (.int 0))) (.cons (.whl (.e (.cmp .Lt (.var 3) (.blt .len (.cons (.var 2) .nil)))) (.cons (.for_ (.v 4) (.seq (.var 0)) (.cons (.for_ (.v 5) (.seq (.call "_law_forces" (.cons (.var 4) (.cons (.idx (.idx (.var 2) (.var 3)) (.c (.int 0))) (.cons (.idx (.idx (.var 2) (.var 3)) (.c (.int 1))) .nil))))) (.cons (.ife (.e (.cmp .NotIn (.var 5) (.var 2))) (.cons (.ex (.mut .append 2 (.cons (.var 5) .nil))) .nil) .nil) .nil)) .nil)) (.cons (.asg (.v 3) (.bin .Add (.var 3) (.c (.int 1)))) .nil))) (.cons (.ret (.var 2)) .nil)))⟩
def h_torn : Fn := ⟨5, 2, [], .cons (.ife (.e (.cmp .Lt (.blt .lenSet (.cons (.lc [2, 3] (.t [2, 3]) (.seq (.var 1)) .tt (.var 2)) .nil)) (.blt .len (.cons (.var 1) .nil)))) (.cons (.ret (.c (.bl true))) .nil) .nil) (.cons (.for_ (.v 4) (.seq (.var 0)) (.cons (.for_ (.t [2, 3]) (.seq (.var 1)) (.cons (.ife (.e (.call "_law_bars" (.cons (.var 4) (.cons (.var 2) (.cons (.var 3) .nil))))) (.cons (.ret (.c (.bl true))) .nil) .nil) .nil)) .nil)) (.cons (.ret (.c (.bl false))) .nil))⟩
def h_due_part : Fn := ⟨7, 2, [], .cons (.asg (.v 2) (.call "_law_arrive" (.cons (.var 0) (.cons (.lc [6] (.v 6) (.rng1 (.blt .len (.cons (.var 1) .nil))) (.e (.cmp .IsNot (.idx (.var 1) (.var 6)) (.c .non))) (.tup (.cons (.var 6) (.cons (.idx (.var 1) (.var 6)) .nil)))) .nil)))) (.cons (.ife (.e (.call "_law_torn" (.cons (.var 0) (.cons (.var 2) .nil)))) (.cons (.ret (.c .non)) .nil) .nil) (.cons (.asg (.v 3) (.blt .list (.cons (.var 1) .nil))) (.cons (.for_ (.t [4, 5]) (.seq (.var 2)) (.cons (.sub 3 (.var 4) (.var 5)) .nil)) (.cons (.ret (.blt .tuple (.cons (.var 3) .nil))) .nil))))⟩
def h_whole : Fn := ⟨3, 3, [], .cons (.ife (.or (.not (.e (.isi (.var 0) .int))) (.e (.isi (.var 0) .bool))) (.cons (.ret (.c (.bl false))) .nil) .nil) (.cons (.ret (.and (.cmp .LtE (.var 1) (.var 0)) (.cmp .Lt (.var 0) (.var 2)))) .nil)⟩
def h_paper_shows : Fn := ⟨9, 5, [], .cons (.ife (.or (.not (.e (.isi (.var 4) .tuple))) (.or (.e (.cmp .NotEq (.blt .len (.cons (.var 4) .nil)) (.c (.int 2)))) (.not (.e (.isi (.idx (.var 4) (.c (.int 0))) .tuple))))) (.cons (.ret (.c (.bl false))) .nil) .nil) (.cons (.asg (.v 5) (.lst (.cons (.tup (.cons (.var 2) (.cons (.var 3) .nil))) .nil))) (.cons (.for_ (.v 6) (.seq (.idx (.var 4) (.c (.int 0)))) (.cons (.ife (.or (.not (.e (.isi (.var 6) .tuple))) (.or (.e (.cmp .NotEq (.blt .len (.cons (.var 6) .nil)) (.c (.int 3)))) (.not (.e (.call "_law_whole" (.cons (.idx (.var 6) (.c (.int 0))) (.cons (.c (.int 0)) (.cons (.blt .len (.cons (.var 1) .nil)) .nil)))))))) (.cons (.ret (.c (.bl false))) .nil) .nil) (.cons (.ife (.or (.not (.e (.call "_law_whole" (.cons (.idx (.var 6) (.c (.int 1))) (.cons (.c (.int 0)) (.cons (.blt .len (.cons (.var 0) .nil)) .nil)))))) (.not (.e (.call "_law_whole" (.cons (.idx (.var 6) (.c (.int 2))) (.cons (.c (.int 0)) (.cons (.idx (.var 0) (.idx (.var 6) (.c (.int 1)))) .nil))))))) (.cons (.ret (.c (.bl false))) .nil) .nil) (.cons (.asg (.v 7) (.tup (.cons (.idx (.var 6) (.c (.int 1))) (.cons (.idx (.var 6) (.c (.int 2))) .nil)))) (.cons (.ife (.e (.cmp .Eq (.lco [8] (.v 8) 5 (.e (.cmp .In (.var 7) (.call "_law_forces" (.cons (.idx (.var 1) (.idx (.var 6) (.c (.int 0)))) (.cons (.idx (.var 8) (.c (.int 0))) (.cons (.idx (.var 8) (.c (.int 1))) .nil)))))) (.var 8)) (.lst .nil))) (.cons (.ret (.c (.bl false))) .nil) .nil) (.cons (.ex (.mut .append 5 (.cons (.var 7) .nil))) .nil)))))) (.cons (.ife (.e (.cmp .Is (.idx (.var 4) (.c (.int 1))) (.c .non))) (.cons (.ret (.cmp .Lt (.blt .lenSet (.cons (.lc [8] (.v 8) (.seq (.var 5)) .tt (.idx (.var 8) (.c (.int 0)))) .nil)) (.blt .lenSet (.cons (.var 5) .nil)))) .nil) .nil) (.cons (.ife (.not (.e (.call "_law_whole" (.cons (.idx (.var 4) (.c (.int 1))) (.cons (.c (.int 0)) (.cons (.blt .len (.cons (.var 1) .nil)) .nil)))))) (.cons (.ret (.c (.bl false))) .nil) .nil) (.cons (.ret (.cmp .NotEq (.lc [8] (.v 8) (.seq (.var 5)) (.e (.call "_law_bars" (.cons (.idx (.var 1) (.idx (.var 4) (.c (.int 1)))) (.cons (.idx (.var 8) (.c (.int 0))) (.cons (.idx (.var 8) (.c (.int 1))) .nil))))) (.var 8)) (.lst .nil))) .nil)))))⟩
def h_fits : Fn := ⟨3, 2, [], .cons (.ret (.cmp .Eq (.lc [2] (.v 2) (.rng1 (.blt .len (.cons (.var 0) .nil))) (.and (.e (.cmp .IsNot (.idx (.var 1) (.var 2)) (.c .non))) (.e (.cmp .NotEq (.idx (.var 1) (.var 2)) (.idx (.var 0) (.var 2))))) (.var 2)) (.lst .nil))) .nil⟩
def h_shuffle : Fn := ⟨5, 2, [], .cons (.asg (.v 2) (.lc [4] (.v 4) (.rng1 (.var 1)) .tt (.var 4))) (.cons (.asg (.v 3) (.lst .nil)) (.cons (.whl (.e (.cmp .NotEq (.var 2) (.lst .nil))) (.cons (.ex (.mut .append 3 (.cons (.mut .popAt 2 (.cons (.call "_law_take" (.cons (.var 0) (.cons (.blt .len (.cons (.var 2) .nil)) .nil))) .nil)) .nil))) .nil)) (.cons (.ret (.var 3)) .nil)))⟩
def h_rename : Fn := ⟨10, 3, [], .cons (.asg (.v 3) (.idx (.var 0) (.c (.int 1)))) (.cons (.ife (.e (.cmp .Eq (.idx (.var 0) (.c (.int 0))) (.c (.str "among")))) (.cons (.ret (.tup (.cons (.c (.str "among")) (.cons (.idx (.var 1) (.var 3)) (.cons (.blt .tuple (.cons (.blt .sortedSet (.cons (.lc [7] (.v 7) (.seq (.idx (.var 0) (.c (.int 2)))) .tt (.idx (.idx (.var 2) (.var 3)) (.var 7))) .nil)) .nil)) .nil))))) .nil) .nil) (.cons (.asg (.v 4) (.ifx (.e (.cmp .Eq (.idx (.var 0) (.c (.int 0))) (.c (.str "match")))) (.idx (.var 0) (.c (.int 2))) (.idx (.var 0) (.c (.int 3))))) (.cons (.asg (.v 5) (.cmp .Gt (.idx (.var 1) (.var 3)) (.idx (.var 1) (.var 4)))) (.cons (.ife (.e (.cmp .Eq (.idx (.var 0) (.c (.int 0))) (.c (.str "match")))) (.cons (.asg (.v 6) (.lc [8, 9] (.t [8, 9]) (.seq (.idx (.var 0) (.c (.int 3)))) .tt (.tup (.cons (.idx (.idx (.var 2) (.var 3)) (.var 8)) (.cons (.idx (.idx (.var 2) (.var 4)) (.var 9)) .nil))))) (.cons (.ife (.e (.var 5)) (.cons (.ret (.tup (.cons (.c (.str "match")) (.cons (.idx (.var 1) (.var 4)) (.cons (.idx (.var 1) (.var 3)) (.cons (.blt .tuple (.cons (.blt .sortedSet (.cons (.lc [8, 9] (.t [8, 9]) (.seq (.var 6)) .tt (.tup (.cons (.var 9) (.cons (.var 8) .nil)))) .nil)) .nil)) .nil)))))) .nil) .nil) (.cons (.ret (.tup (.cons (.c (.str "match")) (.cons (.idx (.var 1) (.var 3)) (.cons (.idx (.var 1) (.var 4)) (.cons (.blt .tuple (.cons (.blt .sortedSet (.cons (.var 6) .nil)) .nil)) .nil)))))) .nil))) .nil) (.cons (.ife (.e (.var 5)) (.cons (.ret (.tup (.cons (.c (.str "either")) (.cons (.idx (.var 1) (.var 4)) (.cons (.idx (.idx (.var 2) (.var 4)) (.idx (.var 0) (.c (.int 4)))) (.cons (.idx (.var 1) (.var 3)) (.cons (.idx (.idx (.var 2) (.var 3)) (.idx (.var 0) (.c (.int 2)))) .nil))))))) .nil) .nil) (.cons (.ret (.tup (.cons (.c (.str "either")) (.cons (.idx (.var 1) (.var 3)) (.cons (.idx (.idx (.var 2) (.var 3)) (.idx (.var 0) (.c (.int 2)))) (.cons (.idx (.var 1) (.var 4)) (.cons (.idx (.idx (.var 2) (.var 4)) (.idx (.var 0) (.c (.int 4)))) .nil))))))) .nil))))))⟩
def h_moved : Fn := ⟨5, 3, [], .cons (.asg (.v 3) (.bin .Mult (.lst (.cons (.c .non) .nil)) (.blt .len (.cons (.var 0) .nil)))) (.cons (.for_ (.v 4) (.rng1 (.blt .len (.cons (.var 0) .nil))) (.cons (.sub 3 (.idx (.var 1) (.var 4)) (.ifx (.e (.cmp .Is (.idx (.var 0) (.var 4)) (.c .non))) (.c .non) (.idx (.idx (.var 2) (.var 4)) (.idx (.var 0) (.var 4))))) .nil)) (.cons (.ret (.blt .tuple (.cons (.var 3) .nil))) .nil))⟩
end Q
end
section
set_option maxHeartbeats 4000000
namespace Q
open PySem Q.M
/-! ### draws: the bag [rest, base, turn] -/
def BagOk (m : Nat) (xs : List PV) : Prop := ∃ a b c : Int, xs = [.int a, .int b, .int c] ∧ 0 ≤ b ∧ b < 999999999999999989 ∧ 0 ≤ c ∧ c ≤ m
theorem BagOk.up {m m' : Nat} {xs : List PV} (h : BagOk m xs) (hm : m ≤ m') : BagOk m' xs := by
  obtain ⟨a, b, c, e, h1, h2, h3, h4⟩ := h
  exact ⟨a, b, c, e, h1, h2, h3, by omega⟩
theorem mod_of {a m : Int} (h : 0 < m) : ∃ d : Nat, a % m = d ∧ (d : Int) < m := by
  have h1 := Int.emod_nonneg a (b := m) (by omega)
  have h2 := Int.emod_lt_of_pos a h
  exact ⟨(a % m).toNat, by omega, by omega⟩
theorem take_wp {T : Tbl} [Fc T "_law_take" h_take] {n : Nat} {g : List GI} {q : SV → List SV → List GI → Prop} {e : XV → List SV → List GI → Prop} {m many : Nat} {xs : List PV} (h1 : 0 < many) (h2 : many < 2 ^ 200) (hb : BagOk m xs) (hm : m ≤ 1000000)
    (k : ∀ d xs', d < many → BagOk (m + 1) xs' → q (.v (.int (d : Nat))) [.own (.lst xs'), .v (.int many)] g) : (callN T (n + 1) "_law_take" [.own (.lst xs), .v (.int many)] g).wq q e := by
  refine run_in (Fc.at_ : T "_law_take" = some h_take) rfl rfl ?_
  obtain ⟨a, b, c, rfl, hb1, hb2, hc1, hc2⟩ := hb
  have p1 : (0 : Int) < many := by omega
  have l2 : (many : Int).natAbs.log2 < 9000 := by
    have := log_lt (i := (many : Int)) (k := 200) (by simpa using h2) (by decide)
    omega
  have ix0 : ∀ x y z : PV, ixO (.d (.lst [x, y, z])) (.v (.int 0)) = some x := fun x y z => ix_ofl (i := 0) rfl
  have ix1 : ∀ x y z : PV, ixO (.d (.lst [x, y, z])) (.v (.int 1)) = some y := fun x y z => ix_ofl (i := 1) rfl
  have ix2 : ∀ x y z : PV, ixO (.d (.lst [x, y, z])) (.v (.int 2)) = some z := fun x y z => ix_ofl (i := 2) rfl
  have n0 : ixN 3 (0 : Int) = some 0 := by decide
  have n2 : ixN 3 (2 : Int) = some 2 := by decide
  by_cases ha : 0 < a
  · obtain ⟨d, e1, e2⟩ := mod_of (a := a) p1
    simp [ix0, ix1, ix2, ha, b_mod p1, b_div (a := a) ⟨p1, l2⟩, subO, n0, e1]
    exact k d _ (by omega) ⟨_, b, c, rfl, hb1, hb2, hc1, by omega⟩
  · generalize ht : c + 1 = t
    have t1 : t.natAbs < 2 ^ 20 := by omega
    have b1 : b.natAbs < 2 ^ 60 := by omega
    have c5 : (5 : Int).natAbs < 2 ^ 3 := by decide
    have e1 := mul_ok c5 t1 (by decide) (by decide) (by decide)
    have c10007 : (10007 : Int).natAbs < 2 ^ 14 := by decide
    have e2 := mul_ok c10007 t1 (by decide) (by decide) (by decide)
    have d2 := bd_mul c10007 t1
    have e3 := mul_ok d2 t1 (by decide) (by decide) (by decide)
    have d3 := bd_mul d2 t1
    have d1 := bd_mul c5 t1
    have x1 := bd_add b1 (bd_up (l := 60) d1 (by decide))
    have x2 := bd_add (bd_add b1 (bd_up (l := 60) d3 (by decide))) (j := 71) (by decide)
    have e4 := mul_ok x1 x2 (by decide) (by decide) (by decide)
    generalize hS : (b + 5 * t) * (b + 10007 * t * t + 71) % 9999999999999937 = S
    have s1 : S.natAbs < 2 ^ 54 := by
      have := Int.emod_nonneg ((b + 5 * t) * (b + 10007 * t * t + 71)) (b := 9999999999999937) (by decide)
      have := Int.emod_lt_of_pos ((b + 5 * t) * (b + 10007 * t * t + 71)) (b := 9999999999999937) (by decide)
      omega
    have e5 := mul_ok s1 s1 (by decide) (by decide) (by decide)
    have e6 := mul_ok (bd_mul s1 s1) s1 (by decide) (by decide) (by decide)
    have e7 := mul_ok (i := 40961) (k := 16) (by decide) s1 (by decide) (by decide) (by decide)
    have e8 := mul_ok (i := 977) (k := 10) (by decide) t1 (by decide) (by decide) (by decide)
    have l4 : (0 : Int) < 4096 ∧ (4096 : Int).natAbs.log2 < 9000 := by decide
    obtain ⟨d, f1, f2⟩ := mod_of (a := (S * S * S + 40961 * S + 977 * t) % 999999999989 / 4096) p1
    simp [ix0, ix1, ix2, ha, subO, n2, ht, b_mul e1, b_mul e2, b_mul e3, b_mul e4, b_mul e5, b_mul e6, b_mul e7, b_mul e8, b_mod (a := (b + 5 * t) * (b + 10007 * t * t + 71)) (b := 9999999999999937) (by decide), b_mod (b := 999999999989) (by decide), b_div l4, b_mod p1, hS, f1]
    exact k d _ (by omega) ⟨a, b, t, rfl, hb1, hb2, by omega, by omega⟩
theorem pouch_wp {T : Tbl} [Fc T "_law_pouch" h_pouch] {n : Nat} {g : List GI} {q : SV → List SV → List GI → Prop} {e : XV → List SV → List GI → Prop} {cell : Int} (k : ∀ xs', BagOk 0 xs' → q (.own (.lst xs')) [.v (.int cell)] g) : (callN T (n + 1) "_law_pouch" [.v (.int cell)] g).wq q e := by
  refine run_in (Fc.at_ : T "_law_pouch" = some h_pouch) rfl rfl ?_
  have p1 : powOk 10 18 = true := by decide
  have p2 : (0 : Int) < 999999999999999989 := by decide
  have h1 := Int.emod_nonneg cell (b := 999999999999999989) (by decide)
  have h2 := Int.emod_lt_of_pos cell p2
  by_cases h : 1000000000000000000 < cell
  · simp [b_pow p1, h, b_mod p2]
    exact k _ ⟨_, _, _, rfl, h1, h2, by omega, by omega⟩
  · simp [b_pow p1, h, b_mod p2]
    exact k _ ⟨_, _, _, rfl, h1, h2, by omega, by omega⟩

theorem flat_one {α : Type} (a : α) : ∀ n : Nat, (List.replicate n [a]).flatten = List.replicate n a
  | 0 => rfl
  | n + 1 => by rw [List.replicate_succ, List.flatten_cons, flat_one a n, List.replicate_succ]; rfl
theorem b_rep {p : PV} {k : Nat} (h1 : 1 ≤ k) (h2 : k ≤ 1000) : binO .Mult (.v (.tup [p])) (.v (.int k)) = some (.v (.tup (List.replicate k p))) := by
  have : binO .Mult (.v (.tup [p])) (.v (.int k)) = if [p] ≠ [] ∧ (1 : Int) ≤ k ∧ (k : Int) ≤ 1000 ∧ [p].length ≤ 1000 then some (.v (.tup (List.replicate (k : Int).toNat [p]).flatten)) else none := rfl
  rw [this, if_pos ⟨by simp, by omega, by omega, by simp⟩, Int.toNat_natCast, flat_one]
theorem eL_rep (k v : Nat) : PV.tup (List.replicate k (.int v)) = eL (List.replicate k v) := by simp [eL]
theorem Sz.rep {k v : Nat} (h1 : 1 ≤ k) (h2 : k ≤ 8) (h3 : 1 ≤ v) (h4 : v ≤ 5) : Sz (List.replicate k v) := by
  refine ⟨by simpa using h1, by simpa using h2, fun f hf => ?_⟩
  have := vl_mem hf
  rw [List.mem_replicate] at this
  rw [this.2]
  exact ⟨h3, h4⟩
theorem Sz.of {ns : List Nat} (h1 : 1 ≤ ns.length) (h2 : ns.length ≤ 8) (h3 : ∀ a ∈ ns, 1 ≤ a ∧ a ≤ 5) : Sz ns := ⟨h1, h2, fun f hf => h3 _ (vl_mem hf)⟩
theorem nL_app {l : List Nat} {a : Nat} : nL l ++ [.int a] = nL (l ++ [a]) := by simp
def sz_t : SL := SL.drop 3 h_draw_sizes.body
theorem draw_sizes_wp {T : Tbl} [Fc T "_law_draw_sizes" h_draw_sizes] [Fc T "_law_take" h_take] {n : Nat} {g : List GI} {q : SV → List SV → List GI → Prop} {e : XV → List SV → List GI → Prop} {m sp far : Nat} {xs : List PV} (hb : BagOk m xs) (hm : m ≤ 900000) (s1 : 1 ≤ sp) (s2 : sp ≤ 8) (f1 : 1 ≤ far) (f2 : far ≤ 5)
    (k : ∀ ns xs', Sz ns → BagOk (m + 10) xs' → q (.v (eL ns)) [.own (.lst xs'), .v (.int sp), .v (.int far)] g) : (callN T (n + 2) "_law_draw_sizes" [.own (.lst xs), .v (.int sp), .v (.int far)] g).wq q e := by
  refine run_in (Fc.at_ : T "_law_draw_sizes" = some h_draw_sizes) rfl rfl ?_
  change (exs _ (.cons _ (.cons _ (.cons _ sz_t))) _).wq _
  simp
  refine take_wp (many := 4) (by omega) (by omega) hb (by omega) fun d xs1 d1 hb1 => ?_
  simp
  -- behind the number of fields
  have rest : ∀ (many : Nat) (ys : List PV), 1 ≤ many → many ≤ 8 → BagOk (m + 2) ys → ∀ p : Post, (∀ ns xs', Sz ns → BagOk (m + 10) xs' → p.rt (.v (eL ns)) ⟨[Vo xs', Vv (.int sp), Vv (.int far), Vv (.int d), Vv (.int many), none], g⟩) →
      (exs ⟨callN T (n + 1), 3, [], whileFuel⟩ sz_t ⟨[Vo ys, Vv (.int sp), Vv (.int far), Vv (.int d), Vv (.int many), none], g⟩).wq p := by
    intro many ys m1 m8 hy p hp
    simp [sz_t, h_draw_sizes, SL.drop]
    by_cases h2 : d = 2
    · simp [eq_true h2]
      refine take_wp (many := far) (by omega) (by omega) hy (by omega) fun t ys1 t1 hy1 => ?_
      obtain ⟨z, hz⟩ : ∃ z : Nat, (1 : Int) + t = z := ⟨1 + t, by omega⟩
      simp [hz, b_rep (p := .int z) m1 (by omega : many ≤ 1000), eL_rep]
      exact hp _ _ (Sz.rep m1 m8 (by omega) (by omega)) (hy1.up (by omega))
    · simp [h2, r_0 (n := many) (by omega)]
      refine lc_inv (fun pre acc st => ∃ (ns : List Nat) (ys : List PV), acc = nL ns ∧ ns.length = pre.length ∧ (∀ a ∈ ns, 1 ≤ a ∧ a ≤ 5) ∧ BagOk (m + 2 + pre.length) ys ∧ st = ⟨[Vo ys, Vv (.int sp), Vv (.int far), Vv (.int d), Vv (.int many), none], g⟩) ?_ ⟨[], ys, rfl, rfl, fun a h => (by cases h), hy, rfl⟩ ?_
      · rintro pre i post acc st e ⟨ns, zs, rfl, hl, hv, hz, rfl⟩
        have le := congrArg List.length e
        simp at le
        refine lcF_ok rfl ?_
        simp
        refine take_wp (many := far) (by omega) (by omega) hz (by omega) fun t ys' t1 hy' => ?_
        obtain ⟨z, hz⟩ : ∃ z : Nat, (1 : Int) + t = z := ⟨1 + t, by omega⟩
        simp [hz]
        refine ⟨ns ++ [z], by simp, by simp [hl], fun a ha => ?_, hy'⟩
        rcases List.mem_append.mp ha with h | h
        · exact hv a h
        · simp at h
          omega
      · rintro r st ⟨ns, zs, rfl, hl, hv, hz, rfl⟩
        simp at hl hz
        have hz' : ns.length ≤ line := by unfold line; omega
        simp [hz']
        exact hp ns zs (Sz.of (by omega) (by omega) hv) (hz.up (by omega))
  by_cases h0 : d = 0
  · simp [h0, b_rep (p := .int far) s1 (by omega : sp ≤ 1000), eL_rep]
    exact k _ _ (Sz.rep s1 s2 f1 f2) (hb1.up (by omega))
  · by_cases h1 : d = 1
    · simp [eq_true h1, h0]
      refine rest sp xs1 s1 s2 (hb1.up (by omega)) _ fun ns xs' hs hb => ?_
      simp
      exact k _ _ hs hb
    · simp [h0, h1]
      refine take_wp (many := sp) (by omega) (by omega) hb1 (by omega) fun t ys1 t1 hy1 => ?_
      obtain ⟨z, hz⟩ : ∃ z : Nat, (1 : Int) + t = z := ⟨1 + t, by omega⟩
      simp [hz]
      refine rest z ys1 (by omega) (by omega) hy1 _ fun ns xs' hs hb => ?_
      simp
      exact k _ _ hs hb
/-! rows -/
theorem Fill.of {ns row : List Nat} (h : row.length = ns.length) (h2 : ∀ f, f < ns.length → vl row f < vl ns f) : Fill ns row := ⟨h, h2⟩
theorem vl_app {l : List Nat} {a f : Nat} : vl (l ++ [a]) f = if f < l.length then vl l f else if f = l.length then a else 0 := by
  unfold vl
  rw [List.getD_eq_getElem?_getD, List.getD_eq_getElem?_getD]
  split
  · rename_i h
    rw [List.getElem?_append_left h]
  · rename_i h
    rw [List.getElem?_append_right (by omega)]
    split
    · rename_i e
      rw [e, Nat.sub_self]
      rfl
    · rw [List.getElem?_eq_none (by simp; omega)]
      rfl
/-- the values so far are below the sizes -/
def Bel (ns vs : List Nat) : Prop := ∀ f, f < vs.length → vl vs f < vl ns f
theorem Bel.nil {ns : List Nat} : Bel ns [] := fun f h => (by cases h)
theorem Bel.app {ns vs : List Nat} {d : Nat} (h : Bel ns vs) (hd : d < vl ns vs.length) : Bel ns (vs ++ [d]) := fun f hf => by
  rw [vl_app]
  simp at hf
  split
  · exact h f (by assumption)
  · have : f = vs.length := by omega
    rw [if_pos this, this]
    exact hd
theorem split_at {l pre post : List Nat} {a : Nat} (e : l = pre ++ a :: post) : pre.length < l.length ∧ vl l pre.length = a := by
  subst e
  refine ⟨by simp, ?_⟩
  unfold vl
  rw [List.getD_eq_getElem?_getD, List.getElem?_append_right (Nat.le_refl _), Nat.sub_self]
  rfl
theorem draw_row_wp {T : Tbl} [Fc T "_law_draw_row" h_draw_row] [Fc T "_law_take" h_take] {n : Nat} {g : List GI} {q : SV → List SV → List GI → Prop} {e : XV → List SV → List GI → Prop} {m : Nat} {ns : List Nat} {xs : List PV} (hs : Sz ns) (hb : BagOk m xs) (hm : m ≤ 900000)
    (k : ∀ row xs', Fill ns row → BagOk (m + 8) xs' → q (.v (eL row)) [.own (.lst xs'), .v (eL ns)] g) : (callN T (n + 2) "_law_draw_row" [.own (.lst xs), .v (eL ns)] g).wq q e := by
  refine run_in (Fc.at_ : T "_law_draw_row" = some h_draw_row) rfl rfl ?_
  have h8 := hs.hi
  simp
  refine lc_inv (fun pre acc st => ∃ (vs : List Nat) (ys : List PV), acc = nL vs ∧ vs.length = pre.length ∧ Bel ns vs ∧ BagOk (m + pre.length) ys ∧ st = ⟨[Vo ys, Vv (eL ns), none], g⟩) ?_ ⟨[], xs, rfl, rfl, Bel.nil, hb, rfl⟩ ?_
  · rintro pre a post acc st e ⟨vs, ys, rfl, hl, hv, hy, rfl⟩
    obtain ⟨e1, e2⟩ := split_at e
    have := hs.at_ pre.length e1
    refine lcF_ok rfl ?_
    simp
    refine take_wp (many := a) (by omega) (by omega) hy (by omega) fun d ys' d1 hy' => ?_
    simp
    exact ⟨vs ++ [d], by simp, by simp [hl], hv.app (by rw [hl, e2]; exact d1), hy'⟩
  · rintro r st ⟨vs, ys, rfl, hl, hv, hy, rfl⟩
    have hz' : vs.length ≤ line := by unfold line; omega
    simp [hz']
    exact k vs ys ⟨hl, fun f hf => hv f (by omega)⟩ (hy.up (by omega))
/-! rules -/
theorem nil_eq {x : DV} {xs : List PV} {d w : Nat} (hx : x.lst = some xs) (h : ∀ p ∈ xs, Gd d w p) (hd : d ≤ 60) (n : ∀ p ∈ xs, nb p = true) : cmpO .Eq x (.d (.lst [])) = some xs.isEmpty := by
  have hp : x.pv = some (.lst xs) := by
    unfold DV.lst at hx
    split at hx <;> cases hx <;> rfl
  refine c_same (p := .lst xs) (q := .lst []) (d := d + 1) (w := xs.length * (w + 1)) hp rfl (Gd.lst h) ((Gd.lst (d := d) (w := w) (xs := []) fun p h => (by cases h)).mono (Nat.le_refl _) (by simp)) (by omega) (by unfold nb; rw [nbs_all]; exact n) rfl (fun s h => by cases h) ?_
  cases xs <;> simp
theorem nil_ne {x : DV} {xs : List PV} {d w : Nat} (hx : x.lst = some xs) (h : ∀ p ∈ xs, Gd d w p) (hd : d ≤ 60) (n : ∀ p ∈ xs, nb p = true) : cmpO .NotEq x (.d (.lst [])) = some (!xs.isEmpty) := by
  have e : cmpO .NotEq x (.d (.lst [])) = (cmpO .Eq x (.d (.lst []))).map (!·) := rfl
  rw [e, nil_eq hx h hd n]
  rfl
theorem nb_N {l : List Nat} : ∀ p ∈ nL l, nb p = true := fun p hp => by
  obtain ⟨a, _, rfl⟩ := List.mem_map.mp hp
  rfl
theorem pop_at {xs : List PV} {i : Nat} {y : PV} (h : xs[i]? = some y) : mutO .popAt xs [.int i] = some (y, xs.eraseIdx i) := by
  have hl := (List.getElem?_eq_some_iff.mp h).1
  have : mutO .popAt xs [.int i] = (ixN xs.length (i : Int)).bind fun k => (xs[k]?).map fun y => (y, xs.eraseIdx k) := rfl
  rw [this, ixN_n, if_pos hl, Option.bind_some, h]
  rfl
theorem pop_N {l : List Nat} {i : Nat} (h : i < l.length) : mutO .popAt (nL l) [.int i] = some (.int (vl l i), nL (l.eraseIdx i)) := by
  rw [pop_at (y := .int (vl l i)) (by rw [List.getElem?_map, vl_at h]; rfl)]
  have : ∀ (l : List Nat) (i : Nat), (nL l).eraseIdx i = nL (l.eraseIdx i) := by
    intro l
    induction l with
    | nil => intro i; rfl
    | cons a r ih =>
      intro i
      cases i with
      | zero => rfl
      | succ i => exact congrArg _ (ih i)
  rw [this]
theorem erase_nodup {l : List Nat} (h : l.Nodup) {i : Nat} (hi : i < l.length) : (l.eraseIdx i).Nodup ∧ vl l i ∉ l.eraseIdx i ∧ ∀ b ∈ l.eraseIdx i, b ∈ l := by
  refine ⟨h.sublist (List.eraseIdx_sublist ..), fun m => ?_, fun b m => (List.eraseIdx_sublist ..).subset m⟩
  obtain ⟨j, hj, e⟩ := List.getElem_of_mem m
  rw [List.getElem_eraseIdx] at e
  have hv := vl_at hi
  rw [List.getElem?_eq_getElem hi] at hv
  have hv := Option.some.inj hv
  rw [← hv] at e
  have inj := List.nodup_iff_pairwise_ne.mp h
  rw [List.pairwise_iff_getElem] at inj
  split at e
  · exact inj j i _ _ (by omega) e
  · exact inj i (j + 1) _ _ (by omega) e.symm
theorem eP_app {l : List (Nat × Nat)} {p : Nat × Nat} : l.map eP ++ [eP p] = (l ++ [p]).map eP := by simp
def TabP (m s t thick : Nat) (g : List GI) (pre : List Nat) (st : ST) : Prop := ∃ (left : List Nat) (ps : List (Nat × Nat)) (ys : List PV) (z : Option SV), left.Nodup ∧ (∀ b ∈ left, b < t) ∧ left.length ≤ 5 ∧ (∀ p ∈ ps, p.2 ∉ left) ∧ ps.Pairwise (fun p q => p.1 < q.1) ∧ ps.Pairwise (fun p q => p.2 ≠ q.2) ∧ (∀ p ∈ ps, p.1 ∈ pre ∧ p.2 < t) ∧ ps.length ≤ pre.length ∧ BagOk (m + 1 + 2 * pre.length) ys ∧ st = ⟨[Vo ys, Vv (.int s), Vv (.int t), Vv (.int thick), Vo (nL left), z, Vo (ps.map eP)], g⟩
theorem draw_table_wp {T : Tbl} [Fc T "_law_draw_table" h_draw_table] [Fc T "_law_take" h_take] {n : Nat} {g : List GI} {q : SV → List SV → List GI → Prop} {e : XV → List SV → List GI → Prop} {m s t : Nat} {xs : List PV} (hs : s ≤ 5) (ht : t ≤ 5) (hb : BagOk m xs) (hm : m ≤ 900000)
    (k : ∀ ps xs', ps.Pairwise (fun p q => p.1 < q.1) → ps.Pairwise (fun p q => p.2 ≠ q.2) → (∀ p ∈ ps, p.1 < s ∧ p.2 < t) → BagOk (m + 12) xs' → q (.v (ePs ps)) [.own (.lst xs'), .v (.int s), .v (.int t)] g) : (callN T (n + 2) "_law_draw_table" [.own (.lst xs), .v (.int s), .v (.int t)] g).wq q e := by
  refine run_in (Fc.at_ : T "_law_draw_table" = some h_draw_table) rfl rfl ?_
  simp
  refine take_wp (many := 4) (by omega) (by omega) hb (by omega) fun thick xs1 _ hb1 => ?_
  simp [r_0 (n := t) (by omega)]
  refine lc_map (fun (i : Nat) => .int i) (fun i hi => lcF_ok rfl ?_) ?_
  · simp
  · simp [r_0 (n := s) (by omega), show t ≤ line by unfold line; omega]
    refine for_map (TabP m s t thick g) ?_ ⟨List.range t, [], xs1, none, List.nodup_range, fun b hb => List.mem_range.mp hb, by simpa using ht, fun p h => (by cases h), .nil, .nil, fun p h => (by cases h), Nat.le_refl _, hb1, by simp⟩ ?_
    · rintro pre i post st e ⟨left, ps, ys, z, l1, l2, l3, p1, p2, p3, p4, p5, hy, rfl⟩
      have le := congrArg List.length e
      simp at le
      have hpost : ∀ a ∈ pre, a < i := fun a ha => by
        have := List.pairwise_lt_range (n := s)
        rw [e, List.pairwise_append] at this
        exact this.2.2 a ha i (by simp)
      have ne := nil_ne (x := .d (.lst (nL left))) rfl (gd_N fun a ha => by have := l2 a ha; omega) (by decide) nb_N
      have keep : ∀ ys, BagOk (m + 1 + 2 * (pre.length + 1)) ys → TabP m s t thick g (pre ++ [i]) ⟨[Vo ys, Vv (.int s), Vv (.int t), Vv (.int thick), Vo (nL left), Vv (.int i), Vo (ps.map eP)], g⟩ := fun ys h => ⟨left, ps, ys, _, l1, l2, l3, p1, p2, p3, fun p hp => ⟨List.mem_append.mpr (.inl (p4 p hp).1), (p4 p hp).2⟩, by simp; omega, by simpa using h, rfl⟩
      have put : ∀ ys j, j < left.length → BagOk (m + 1 + 2 * (pre.length + 1)) ys → TabP m s t thick g (pre ++ [i]) ⟨[Vo ys, Vv (.int s), Vv (.int t), Vv (.int thick), Vo (nL (left.eraseIdx j)), Vv (.int i), Vo (ps.map eP ++ [eP (i, vl left j)])], g⟩ := fun ys j hj h => by
        obtain ⟨n1, n2, n3⟩ := erase_nodup l1 hj
        have hm := vl_mem hj
        refine ⟨left.eraseIdx j, ps ++ [(i, vl left j)], ys, _, n1, fun b hb => l2 b (n3 b hb), ?_, fun p hp => ?_, ?_, ?_, fun p hp => ?_, by simp; omega, by simpa using h, by rw [eP_app]⟩
        · have := List.length_eraseIdx_le left j
          omega
        · rcases List.mem_append.mp hp with hp | hp
          · exact fun m => p1 p hp (n3 _ m)
          · simp at hp
            subst hp
            exact n2
        · rw [List.pairwise_append]
          refine ⟨p2, by simp, fun a ha b hb => ?_⟩
          simp at hb
          subst hb
          exact hpost _ (p4 a ha).1
        · rw [List.pairwise_append]
          refine ⟨p3, by simp, fun a ha b hb => ?_⟩
          simp at hb
          subst hb
          exact fun e => p1 a ha (by rw [e]; exact hm)
        · rcases List.mem_append.mp hp with hp | hp
          · exact ⟨List.mem_append.mpr (.inl (p4 p hp).1), (p4 p hp).2⟩
          · simp at hp
            subst hp
            exact ⟨by simp, l2 _ hm⟩
      simp only [nL] at ne
      cases hl : left with
      | nil =>
        subst hl
        simp at ne
        simp [ne]
        exact keep ys (hy.up (by omega))
      | cons b r =>
        have h1 : 0 < left.length := by rw [hl]; simp
        rw [← hl]
        have hne : (left.map fun (n : Nat) => PV.int n).isEmpty = false := by rw [hl]; rfl
        rw [hne] at ne
        by_cases ht0 : thick = 0
        · simp [ne, eq_true ht0]
          refine take_wp (many := left.length) (by omega) (by omega) hy (by omega) fun j ys1 hj hy1 => ?_
          have := pop_N hj
          simp only [nL] at this
          simp [this, show ps.length < line by unfold line; omega]
          exact put ys1 j hj (hy1.up (by omega))
        · simp [ne, ht0]
          refine take_wp (many := 4) (by omega) (by omega) hy (by omega) fun u ys1 _ hy1 => ?_
          by_cases hu : 0 < u
          · simp [hu]
            refine take_wp (many := left.length) (by omega) (by omega) hy1 (by omega) fun j ys2 hj hy2 => ?_
            have := pop_N hj
            simp only [nL] at this
            simp [this, show ps.length < line by unfold line; omega]
            exact put ys2 j hj (hy2.up (by omega))
          · simp [hu]
            exact keep ys1 (hy1.up (by omega))
    · rintro st ⟨left, ps, ys, z, l1, l2, l3, p1, p2, p3, p4, p5, hy, rfl⟩
      simp at p4 p5 hy
      simp
      exact k ps ys p2 p3 (fun p hp => ⟨(p4 p.1 p.2 hp).1, (p4 p.1 p.2 hp).2⟩) (hy.up (by omega))
theorem turn_of {n low t : Nat} (h1 : low < n) (h2 : t < n - 1) : ∃ h : Nat, ((low : Int) + 1 + t) % (n : Int) = h ∧ h < n ∧ h ≠ low := by
  by_cases q : low + 1 + t < n
  · exact ⟨low + 1 + t, by rw [Int.emod_eq_of_lt (by omega) (by omega)]; omega, q, by omega⟩
  · refine ⟨low + 1 + t - n, ?_, by omega, by omega⟩
    have e : ((low : Int) + 1 + t) = ((low + 1 + t - n : Nat) : Int) + (n : Int) * 1 := by omega
    rw [e, Int.add_mul_emod_self_left, Int.emod_eq_of_lt (by omega) (by omega)]
theorem asc_app {l : List Nat} {i : Nat} (h : l.Pairwise (· < ·)) (hi : ∀ a ∈ l, a < i) : (l ++ [i]).Pairwise (· < ·) := by
  rw [List.pairwise_append]
  exact ⟨h, by simp, fun a ha b hb => by simp at hb; rw [hb]; exact hi a ha⟩
theorem range_pre {n i : Nat} {pre post : List Nat} (e : List.range n = pre ++ i :: post) : pre.length < n ∧ i = pre.length ∧ ∀ a ∈ pre, a < i := by
  have le := congrArg List.length e
  simp at le
  have h1 : (List.range n)[pre.length]? = some i := by rw [e, List.getElem?_append_right (Nat.le_refl _), Nat.sub_self]; rfl
  rw [List.getElem?_range (by omega)] at h1
  have h1 := Option.some.inj h1
  refine ⟨by omega, h1.symm, fun a ha => ?_⟩
  have := List.pairwise_lt_range (n := n)
  rw [e, List.pairwise_append] at this
  exact this.2.2 a ha i (by simp)
def AmP (m : Nat) (ns : List Nat) (kind low way : Nat) (g : List GI) (pre : List Nat) (st : ST) : Prop := ∃ (es : List Nat) (ys : List PV) (z : Option SV), es.Pairwise (· < ·) ∧ (∀ a ∈ es, a ∈ pre) ∧ BagOk (m + 3 + pre.length) ys ∧ st = ⟨[Vo ys, Vv (eL ns), Vv (.int kind), Vv (.int low), Vv (.int way), Vo (nL es), z, none], g⟩
def SL.yes : SL → SL
  | .cons (.ife _ b _) _ => b
  | _ => .nil
def SL.no : SL → SL
  | .cons (.ife _ _ b) _ => b
  | _ => .nil
def SL.body : SL → SL
  | .cons (.for_ _ _ b) _ => b
  | .cons (.whl _ b) _ => b
  | _ => .nil
def cl_t : SL := SL.drop 4 h_draw_clause.body
def cl_a : SL := (SL.drop 2 h_draw_clause.body).yes
theorem draw_clause_wp {T : Tbl} [Fc T "_law_draw_clause" h_draw_clause] [Fc T "_law_take" h_take] [Fc T "_law_draw_table" h_draw_table] {n : Nat} {g : List GI} {q : SV → List SV → List GI → Prop} {e : XV → List SV → List GI → Prop} {m : Nat} {ns : List Nat} {xs : List PV} (hs : Sz ns) (hb : BagOk m xs) (hm : m ≤ 800000)
    (k : ∀ r xs', ROk ns r → BagOk (m + 20) xs' → q (.v (eR r)) [.own (.lst xs'), .v (eL ns)] g) : (callN T (n + 3) "_law_draw_clause" [.own (.lst xs), .v (eL ns)] g).wq q e := by
  refine run_in (Fc.at_ : T "_law_draw_clause" = some h_draw_clause) rfl rfl ?_
  change (exs _ (.cons _ (.cons _ (.cons (.ife _ cl_a .nil) (.cons _ cl_t)))) _).wq _
  have h8 := hs.hi
  have h1 := hs.lo
  simp
  refine take_wp (many := 7) (by omega) (by omega) hb (by omega) fun kind xs1 _ hb1 => ?_
  simp
  refine take_wp (many := ns.length) (by omega) (by omega) hb1 (by omega) fun low xs2 hl hb2 => ?_
  have l5 := hs.at_ low hl
  by_cases hk : kind < 2 ∨ ns.length = 1
  · have am : ∀ p : Post, (∀ r xs' env, ROk ns r → BagOk (m + 20) xs' → p.rt (.v (eR r)) ⟨Vo xs' :: Vv (eL ns) :: env, g⟩) → (exs ⟨callN T (n + 2), 2, [], whileFuel⟩ cl_a ⟨[Vo xs2, Vv (eL ns), Vv (.int kind), Vv (.int low), none, none, none, none], g⟩).wq p := by
      intro p hp
      simp [cl_a, SL.yes, h_draw_clause, SL.drop]
      refine take_wp (many := 8) (by omega) (by omega) hb2 (by omega) fun way xs3 _ hb3 => ?_
      simp [ix_L hl, r_0 (n := vl ns low) (by omega)]
      refine for_map (AmP m ns kind low way g) ?_ ⟨[], xs3, none, .nil, fun a h => (by cases h), hb3, rfl⟩ ?_
      · rintro pre i post st e ⟨es, ys, z, e1, e2, hy, rfl⟩
        obtain ⟨r1, r2, r3⟩ := range_pre e
        have few := asc_len e1 (s := i) fun a ha => r3 a (e2 a ha)
        have put : ∀ ys, BagOk (m + 3 + (pre.length + 1)) ys → AmP m ns kind low way g (pre ++ [i]) ⟨[Vo ys, Vv (eL ns), Vv (.int kind), Vv (.int low), Vv (.int way), Vo (nL es ++ [.int i]), Vv (.int i), none], g⟩ := fun ys h => ⟨es ++ [i], ys, _, asc_app e1 fun a ha => r3 a (e2 a ha), fun a ha => by
            rcases List.mem_append.mp ha with h | h
            · exact List.mem_append.mpr (.inl (e2 a h))
            · exact List.mem_append.mpr (.inr h), by simpa using h, by rw [nL_app]⟩
        have keep : ∀ ys, BagOk (m + 3 + (pre.length + 1)) ys → AmP m ns kind low way g (pre ++ [i]) ⟨[Vo ys, Vv (eL ns), Vv (.int kind), Vv (.int low), Vv (.int way), Vo (nL es), Vv (.int i), none], g⟩ := fun ys h => ⟨es, ys, _, e1, fun a ha => List.mem_append.mpr (.inl (e2 a ha)), by simpa using h, rfl⟩
        have hz : es.length < line := by unfold line; omega
        by_cases w1 : way = 1
        · simp [eq_true w1, hz]
          exact put ys (hy.up (by omega))
        · by_cases w2 : 1 < way
          · simp [w1, w2]
            refine take_wp (many := 4) (by omega) (by omega) hy (by omega) fun u ys1 _ hy1 => ?_
            by_cases hu : 0 < u
            · simp [hu, hz]
              exact put ys1 (hy1.up (by omega))
            · simp [hu]
              exact keep ys1 (hy1.up (by omega))
          · simp [w1, w2]
            exact keep ys (hy.up (by omega))
      · rintro st ⟨es, ys, z, e1, e2, hy, rfl⟩
        simp at e2 hy
        simp
        exact hp (.among low es) ys _ ⟨hl, e1, e2⟩ (hy.up (by omega))
    by_cases hk2 : kind < 2
    · simp [hk2]
      refine (am _ fun r xs' env h1 h2 => ?_)
      simp
      exact k r xs' h1 h2
    · simp [hk2, hk.resolve_left hk2]
      refine (am _ fun r xs' env h1 h2 => ?_)
      simp
      exact k r xs' h1 h2
  · have k1 : ¬ kind < 2 := fun h => hk (.inl h)
    have k2 : ¬ ns.length = 1 := fun h => hk (.inr h)
    obtain ⟨z, hz⟩ : ∃ z : Nat, ((ns.length : Int) - 1) = z := ⟨ns.length - 1, by omega⟩
    simp [k1, k2, hz]
    refine take_wp (many := z) (by omega) (by omega) hb2 (by omega) fun t xs3 ht hb3 => ?_
    obtain ⟨hi, e1, e2, e3⟩ := turn_of (n := ns.length) (low := low) (t := t) hl (by omega)
    -- two fields, in their sequence
    have two : ∀ a b : Nat, a < b → b < ns.length → ∀ p : Post, (∀ r xs' env, ROk ns r → BagOk (m + 20) xs' → p.rt (.v (eR r)) ⟨Vo xs' :: Vv (eL ns) :: env, g⟩) → (exs ⟨callN T (n + 2), 2, [], whileFuel⟩ (SL.drop 1 cl_t) ⟨[Vo xs3, Vv (eL ns), Vv (.int kind), Vv (.int a), none, none, none, Vv (.int b)], g⟩).wq p := by
      intro a b hab hbn p hp
      have a5 := hs.at_ a (by omega)
      have b5 := hs.at_ b hbn
      by_cases k4 : kind < 4
      · simp [cl_t, h_draw_clause, SL.drop, k4, ix_L hbn, ix_L (l := ns) (i := a) (by omega)]
        refine draw_table_wp (by omega) (by omega) hb3 (by omega) fun ps xs4 p1 p2 p3 hb4 => ?_
        simp
        exact hp (.mtch a b ps) xs4 _ ⟨hab, hbn, p1, p2, p3⟩ (hb4.up (by omega))
      · simp [cl_t, h_draw_clause, SL.drop, k4, ix_L hbn, ix_L (l := ns) (i := a) (by omega)]
        refine take_wp (many := vl ns a) (by omega) (by omega) hb3 (by omega) fun v xs4 hv hb4 => ?_
        simp [ix_L hbn]
        refine take_wp (many := vl ns b) (by omega) (by omega) hb4 (by omega) fun w xs5 hw hb5 => ?_
        simp
        exact hp (.eith a v b w) xs5 _ ⟨hab, hbn, hv, hw⟩ (hb5.up (by omega))
    have b0 : (0 : Int) < ns.length := by omega
    have ec : cl_t = .cons (.ife (.e (.cmp .Lt (.var 7) (.var 3))) (.cons (.par [3, 7] (.cons (.var 7) (.cons (.var 3) .nil))) .nil) .nil) (SL.drop 1 cl_t) := rfl
    rw [ec]
    generalize hD : SL.drop 1 cl_t = D at two
    by_cases hlt : hi < low
    · simp [b_mod b0, e1, hlt]
      refine two hi low hlt hl _ fun r xs' env h1 h2 => ?_
      simp
      exact k r xs' h1 h2
    · simp [b_mod b0, e1, hlt]
      refine two low hi (by omega) e2 _ fun r xs' env h1 h2 => ?_
      simp
      exact k r xs' h1 h2

end Q
end
section
set_option maxHeartbeats 4000000
namespace Q
open PySem Q.M
theorem draw_clauses_wp {T : Tbl} [Fc T "_law_draw_clauses" h_draw_clauses] [Fc T "_law_take" h_take] [Fc T "_law_draw_clause" h_draw_clause] [Fc T "_law_draw_table" h_draw_table] {n : Nat} {g : List GI} {q : SV → List SV → List GI → Prop} {e : XV → List SV → List GI → Prop} {m far : Nat} {ns : List Nat} {xs : List PV} (hs : Sz ns) (hf : far ≤ 20) (hf3 : 3 ≤ far) (hb : BagOk m xs) (hm : m ≤ 700000)
    (k : ∀ B xs', BOk ns B → B.length ≤ far → BagOk (m + 500) xs' → q (.v (eB B)) [.own (.lst xs'), .v (eL ns), .v (.int far)] g) : (callN T (n + 4) "_law_draw_clauses" [.own (.lst xs), .v (eL ns), .v (.int far)] g).wq q e := by
  refine run_in (Fc.at_ : T "_law_draw_clauses" = some h_draw_clauses) rfl rfl ?_
  -- the rules, once their number is drawn
  have rest : ∀ (way many : Nat) (ys : List PV), many ≤ far → BagOk (m + 3) ys → ∀ p : Post, (∀ B xs' env, BOk ns B → B.length ≤ far → BagOk (m + 500) xs' → p.rt (.v (eB B)) ⟨Vo xs' :: Vv (eL ns) :: Vv (.int far) :: env, g⟩) → (exs ⟨callN T (n + 3), 3, [], whileFuel⟩ (SL.drop 3 h_draw_clauses.body) ⟨[Vo ys, Vv (eL ns), Vv (.int far), Vv (.int way), Vv (.int many), none, none], g⟩).wq p := by
    intro way many ys hmany hy p hp
    simp [h_draw_clauses, SL.drop, r_0 (n := many) (by omega)]
    refine lc_inv (fun pre acc st => ∃ (B : List Rule) (ys : List PV), acc = B.map eR ∧ B.length = pre.length ∧ BOk ns B ∧ BagOk (m + 3 + 20 * pre.length) ys ∧ st = ⟨[Vo ys, Vv (eL ns), Vv (.int far), Vv (.int way), Vv (.int many), none, none], g⟩) ?_ ⟨[], ys, rfl, rfl, fun r h => (by cases h), hy, rfl⟩ ?_
    · rintro pre i post acc st e ⟨B, ys, rfl, hl, hB, hy, rfl⟩
      obtain ⟨r1, _, _⟩ := range_pre e
      refine lcF_ok rfl ?_
      simp
      refine draw_clause_wp hs hy (by omega) fun r ys' hr hy' => ?_
      simp
      refine ⟨B ++ [r], by simp, by simp [hl], fun x hx => ?_, ?_⟩
      · rcases List.mem_append.mp hx with hx | hx
        · exact hB x hx
        · simp at hx
          rw [hx]
          exact hr
      · exact hy'.up (by omega)
    · rintro r st ⟨B, ys, rfl, hl, hB, hy, rfl⟩
      simp at hl hy
      have hz : B.length ≤ line := by unfold line; omega
      by_cases w : way = 2 ∧ 1 < many
      · obtain ⟨z, hz2⟩ : ∃ z : Nat, ((many : Int) - 1) = z := ⟨many - 1, by omega⟩
        simp [hz, eq_true w.1, w.2, hz2]
        refine take_wp (many := z) (by omega) (by omega) hy (by omega) fun t ys' ht hy' => ?_
        obtain ⟨rt, hB1⟩ : ∃ r, B[t]? = some r := ⟨B[t]'(by omega), by simp [show t < B.length by omega]⟩
        have ix : ixO (.d (.lst (B.map eR))) (.v (.int t)) = some (eR rt) := ix_ofl (by rw [List.getElem?_map, hB1]; rfl)
        have su : subO ⟨callN T (n + 3), 3, [], whileFuel⟩ 5 (.int z) (eR rt) ⟨[Vo ys', Vv (eL ns), Vv (.int far), Vv (.int way), Vv (.int many), Vo (B.map eR), none], g⟩ = some ⟨[Vo ys', Vv (eL ns), Vv (.int far), Vv (.int way), Vv (.int many), Vo ((B.set z rt).map eR), none], g⟩ := by
          simp [subO, show z < B.length by omega, List.map_set]
        simp [ix, hz2, su]
        rw [show PV.tup ((List.map eR B).set z (eR rt)) = eB (B.set z rt) by simp [eB]]
        exact hp _ ys' _ (fun x hx => by
          rcases List.mem_or_eq_of_mem_set hx with h | h
          · exact hB x h
          · rw [h]
            exact hB _ (List.mem_of_getElem? hB1)) (by simp; omega) (hy'.up (by omega))
      · have : way = 2 → ¬ 1 < many := fun h h2 => w ⟨h, h2⟩
        by_cases w2 : way = 2
        · simp [hz, eq_true w2, this w2]
          exact hp B ys _ hB (by omega) (hy.up (by omega))
        · simp [hz, w2]
          exact hp B ys _ hB (by omega) (hy.up (by omega))
  generalize hD : SL.drop 3 h_draw_clauses.body = D at rest
  have ed : h_draw_clauses.body = .cons (.asg (.v 3) (.call "_law_take" (.cons (.var 0) (.cons (.c (.int 5)) .nil)))) (.cons (.asg (.v 4) (.ifx (.e (.cmp .Eq (.var 3) (.c (.int 0)))) (.var 2) (.call "_law_take" (.cons (.var 0) (.cons (.bin .Add (.var 2) (.c (.int 1))) .nil))))) (.cons (.ife (.e (.cmp .Eq (.var 3) (.c (.int 1)))) (.cons (.asg (.v 4) (.call "_law_take" (.cons (.var 0) (.cons (.c (.int 4)) .nil)))) .nil) .nil) D)) := by
    rw [← hD]
    rfl
  change (exs _ h_draw_clauses.body _).wq _
  rw [ed]
  have fin : ∀ B xs' env, BOk ns B → B.length ≤ far → BagOk (m + 500) xs' → (ret2 3 [] [.own (.lst xs), .v (eL ns), .v (.int far)] (.v (eB B)) ⟨Vo xs' :: Vv (eL ns) :: Vv (.int far) :: env, g⟩).wq q e := fun B xs' env h1 h2 h3 => by
    simp
    exact k B xs' h1 h2 h3
  simp
  refine take_wp (many := 5) (by omega) (by omega) hb (by omega) fun way xs1 _ hb1 => ?_
  by_cases w0 : way = 0
  · simp [eq_true w0, show ¬ way = 1 by omega]
    exact rest way far xs1 (Nat.le_refl _) (hb1.up (by omega)) _ fin
  · obtain ⟨z, hz⟩ : ∃ z : Nat, ((far : Int) + 1) = z := ⟨far + 1, by omega⟩
    simp [w0, hz]
    refine take_wp (many := z) (by omega) (by omega) hb1 (by omega) fun many xs2 _ hb2 => ?_
    by_cases w1 : way = 1
    · simp [eq_true w1]
      refine take_wp (many := 4) (by omega) (by omega) hb2 (by omega) fun many xs3 _ hb3 => ?_
      simp
      exact rest way many xs3 (by omega) (hb3.up (by omega)) _ fin
    · simp [w1]
      exact rest way many xs2 (by omega) (hb2.up (by omega)) _ fin
/-! what a rule asks -/
theorem any_filter {α : Type} [BEq α] [LawfulBEq α] {l : List α} {a : α} {f : α → PV} : (!((l.filter fun b => a == b).map f).isEmpty) = l.contains a := by
  rw [List.isEmpty_map, Bool.eq_iff_iff]
  simp [List.isEmpty_iff, List.filter_eq_nil_iff]
theorem test_eq {T : Tbl} [Fc T "_law_test" h_test] {n : Nat} {g : List GI} {ns row : List Nat} (hs : Sz ns) {r : Rule} (h : ROk ns r) (hr : Fill ns row) : callN T (n + 1) "_law_test" [.v (eR r), .v (eL row)] g = .ret (.v (.bl (holds r row))) [.v (eR r), .v (eL row)] g := by
  refine eq_of (run_in (Fc.at_ : T "_law_test" = some h_test) rfl rfl ?_)
  have hl := hr.1
  cases r with
  | among f es =>
    obtain ⟨h1, h2, h3⟩ := h
    have := asc_len h2 h3
    have := hs.le5 f
    simp [eR, ix_L (l := row) (i := f) (by omega)]
    refine lc_filter (fun a => vl row f == a) (fun (a : Nat) => .int a) (fun a ha => lcF_ok rfl ?_) ?_
    · by_cases e : vl row f = a <;> simp [ix_L (l := row) (i := f) (by omega), e]
    · have hz := List.length_filter_le (fun a => vl row f == a) es
      have ne := nil_ne (x := .d (.lst (nL (es.filter fun a => vl row f == a)))) rfl (gd_N fun a ha => hs.small (h3 a (List.mem_filter.mp ha).1)) (by decide) nb_N
      have e := any_filter (l := es) (a := vl row f) (f := fun (n : Nat) => PV.int n)
      simp only [nL] at ne
      rw [e] at ne
      simp [show (es.filter fun a => vl row f == a).length ≤ line by unfold line; omega, ne, holds]
  | mtch f k ps =>
    have h5 := ROk.small hs h
    obtain ⟨h1, h2, _, _, h5⟩ := h
    simp [eR, ix_L (l := row) (i := f) (by omega), ix_L (l := row) (i := k) (by omega)]
    refine lc_filter (fun p => (vl row f, vl row k) == p) (fun p => .int p.1) (fun p hp => lcF_ok rfl ?_) ?_
    · obtain ⟨a, b⟩ := p
      by_cases e1 : vl row f = a <;> by_cases e2 : vl row k = b <;> simp [ix_L (l := row) (i := f) (by omega), ix_L (l := row) (i := k) (by omega), e1, e2]
    · have hz := List.length_filter_le (fun p => (vl row f, vl row k) == p) ps
      have ne := nil_ne (x := .d (.lst ((ps.filter fun p => (vl row f, vl row k) == p).map fun p => .int p.1))) rfl (d := 0) (w := 41) (fun x hx => by
        obtain ⟨p, hp, rfl⟩ := List.mem_map.mp hx
        exact Gd.nat (hs.small (h5 p (List.mem_filter.mp hp).1).1)) (by decide) (fun x hx => by
        obtain ⟨p, hp, rfl⟩ := List.mem_map.mp hx
        rfl)
      have e := any_filter (l := ps) (a := (vl row f, vl row k)) (f := fun p => PV.int p.1)
      rw [e] at ne
      simp [show (ps.filter fun p => (vl row f, vl row k) == p).length ≤ line by unfold line; omega, ne, holds]
  | eith f v k w =>
    obtain ⟨h1, h2, h3, h4⟩ := h
    by_cases e1 : vl row f = v <;> by_cases e2 : vl row k = w <;> simp [eR, ix_L (l := row) (i := f) (by omega), ix_L (l := row) (i := k) (by omega), holds, e1, e2]
def namedPair : Rule → Nat × Nat
  | .among f _ => (f, f)
  | .mtch f k _ => (f, k)
  | .eith f _ k _ => (f, k)
theorem named_pair_eq {T : Tbl} [Fc T "_law_named_pair" h_named_pair] {n : Nat} {g : List GI} {r : Rule} : callN T (n + 1) "_law_named_pair" [.v (eR r)] g = .ret (.v (eP (namedPair r))) [.v (eR r)] g := by
  refine eq_of (run_in (Fc.at_ : T "_law_named_pair" = some h_named_pair) rfl rfl ?_)
  cases r <;> simp [eR, namedPair]
def one1 (l : List Pr) : Bool := nd (l.map (·.1)) && nd (l.map (·.2))
theorem one_to_one_eq {T : Tbl} [Fc T "_law_one_to_one" h_one_to_one] {n : Nat} {g : List GI} {l : List Pr} (h : l.length < 64) {a : SV} (ha : a = .own (.lst (l.map eP)) ∨ a = .v (.lst (l.map eP))) : callN T (n + 1) "_law_one_to_one" [a] g = .ret (.v (.bl (one1 l))) [.v (.lst (l.map eP))] g := by
  have hz : l.length ≤ line := by unfold line; omega
  obtain ⟨k1, e1, f1, g1, i1⟩ := lenSet_eq (l := l.map (·.1)) (by simpa using h) (x := .d (.lst (nL (l.map (·.1))))) rfl
  obtain ⟨k2, e2, f2, g2, i2⟩ := lenSet_eq (l := l.map (·.2)) (by simpa using h) (x := .d (.lst (nL (l.map (·.2))))) rfl
  simp [nL, Function.comp_def] at e1 e2 f1 f2
  rcases ha with rfl | rfl
  all_goals
    refine eq_of (run_in (Fc.at_ : T "_law_one_to_one" = some h_one_to_one) rfl rfl ?_)
    simp
    refine lc_map (fun p => .int p.1) (fun p hp => lcF_ok rfl ?_) ?_
    · simp
    · simp [hz]
      refine lc_map (fun p => .int p.2) (fun p hp => lcF_ok rfl ?_) ?_
      · simp
      · by_cases q : k1 = l.length
        · have q1 : nd (l.map (·.1)) = true := by rw [← f1]; simp [q]
          simp [hz, e1, e2, eq_true q, one1, q1]
          rw [← f2]
        · have q1 : nd (l.map (·.1)) = false := by rw [← f1]; simp [q]
          simp [hz, e1, e2, q, one1, q1]
/-! ### rules that hold of some rows -/
theorem nodup_le {α : Type} [DecidableEq α] {l k : List α} (h1 : l.Nodup) (h : ∀ x ∈ l, x ∈ k) : l.length ≤ k.length := by
  induction l generalizing k with
  | nil => exact Nat.zero_le _
  | cons a r ih =>
    obtain ⟨n1, n2⟩ := List.nodup_cons.mp h1
    have ha := h a (List.mem_cons_self ..)
    have := ih (k := k.erase a) n2 fun x hx => (List.mem_erase_of_ne fun e => n1 (by rw [← e]; exact hx)).mpr (h x (List.mem_cons_of_mem _ hx))
    have := List.length_erase_of_mem ha
    have := List.length_pos_of_mem ha
    rw [List.length_cons]
    omega
def rowsV (rows : List (List Nat)) : List PV := rows.map eL
def shownOf (rows : List (List Nat)) (low high : Nat) : List Pr := rows.map fun row => (vl row low, vl row high)
theorem nil_P {l : List Pr} {x : DV} (h : ∀ p ∈ l, p.1 < 10 ^ 12 ∧ p.2 < 10 ^ 12) (hx : x.lst = some (l.map eP)) : cmpO .Eq x (.d (.lst [])) = some l.isEmpty := by
  have := nil_eq (d := 1) (w := 84) hx (fun p hp => by
    obtain ⟨a, ha, rfl⟩ := List.mem_map.mp hp
    exact gd_P (h a ha).1 (h a ha).2) (by decide) (fun p hp => by
    obtain ⟨a, ha, rfl⟩ := List.mem_map.mp hp
    rfl)
  rw [this, List.isEmpty_map]
theorem nil_rows {ns : List Nat} (hs : Sz ns) {l : List (List Nat)} {x : DV} (h : ∀ r ∈ l, Fill ns r) (hx : x.lst = some (l.map eL)) : cmpO .Eq x (.d (.lst [])) = some l.isEmpty := by
  have := nil_eq (d := 1) (w := 336) hx (fun p hp => by
    obtain ⟨a, ha, rfl⟩ := List.mem_map.mp hp
    exact Fill.gd hs (h a ha)) (by decide) (fun p hp => by
    obtain ⟨a, ha, rfl⟩ := List.mem_map.mp hp
    exact nb_L)
  rw [this, List.isEmpty_map]
theorem one1_iff {l : List Pr} : one1 l = true ↔ (l.map (·.1)).Nodup ∧ (l.map (·.2)).Nodup := by simp [one1, nd]
theorem pasc_fst {l : List Pr} (h : l.Pairwise pLt) (h2 : (l.map (·.1)).Nodup) : l.Pairwise (fun p q => p.1 < q.1) := by
  rw [List.nodup_iff_pairwise_ne, List.pairwise_map] at h2
  refine (h.and h2).imp fun {a b} ⟨h, n⟩ => ?_
  unfold pLt at h
  omega
theorem nodup_inj {l : List Pr} {f : Pr → Nat} (h : (l.map f).Nodup) {p q : Pr} (hp : p ∈ l) (hq : q ∈ l) (e : f p = f q) : p = q := by
  induction l with
  | nil => cases hp
  | cons a r ih =>
    rw [List.map_cons, List.nodup_cons] at h
    rcases List.mem_cons.mp hp with e1 | m1
    · rcases List.mem_cons.mp hq with e2 | m2
      · rw [e1, e2]
      · exact absurd (by rw [← e1, e]; exact List.mem_map_of_mem m2) h.1
    · rcases List.mem_cons.mp hq with e2 | m2
      · exact absurd (by rw [← e2, ← e]; exact List.mem_map_of_mem m1) h.1
      · exact ih h.2 m1 m2
theorem one1_perm {l k : List Pr} (hl : one1 l = true) (hk : k.Pairwise pLt) (h : ∀ p, p ∈ k ↔ p ∈ l) : k.Pairwise (fun p q => p.1 < q.1) ∧ k.Pairwise (fun p q => p.2 ≠ q.2) := by
  obtain ⟨h1, h2⟩ := one1_iff.mp hl
  have i1 : ∀ p ∈ l, ∀ q ∈ l, p.1 = q.1 → p = q := fun p hp q hq e => nodup_inj h1 hp hq e
  have i2 : ∀ p ∈ l, ∀ q ∈ l, p.2 = q.2 → p = q := fun p hp q hq e => nodup_inj h2 hp hq e
  constructor
  · refine hk.imp_of_mem fun {a b} ha hb hab => ?_
    have n : a.1 ≠ b.1 := fun e => by
      have := i1 a ((h a).mp ha) b ((h b).mp hb) e
      subst this
      exact pLt_irr _ hab
    unfold pLt at hab
    omega
  · refine hk.imp_of_mem fun {a b} ha hb hab e => ?_
    have := i2 a ((h a).mp ha) b ((h b).mp hb) e
    subst this
    exact pLt_irr _ hab
def wd_t : SL := SL.drop 2 h_widen.body
theorem shown_ok {ns : List Nat} (hs : Sz ns) {rows : List (List Nat)} (hrow : ∀ row ∈ rows, Fill ns row) {low high : Nat} (hl : low < ns.length) (hh : high < ns.length) : ∀ p ∈ shownOf rows low high, p.1 < vl ns low ∧ p.2 < vl ns high := fun p hp => by
  obtain ⟨row, hm, rfl⟩ := List.mem_map.mp hp
  exact ⟨(hrow row hm).2 low hl, (hrow row hm).2 high hh⟩
theorem eP_add {l : List Pr} {p : Pr} : l.map eP ++ [eP p] = (l ++ [p]).map eP := by simp
def MtP (ns : List Nat) (rows : List (List Nat)) (sh : List Pr) (f k2 : Nat) (ps : List Pr) (g : List GI) (pre : List Pr) (st : ST) : Prop := ∃ l x4 x5, (x4 = Vo (l.map eP) ∨ x4 = Vv (.lst (l.map eP))) ∧ one1 l = true ∧ (∀ p ∈ l, p.1 < vl ns f ∧ p.2 < vl ns k2) ∧ (∀ p ∈ sh, p ∈ l) ∧ l.length ≤ 30 + pre.length ∧ st = ⟨[Vv (eR (.mtch f k2 ps)), Vv (.lst (rows.map eL)), Vv (.int f), Vv (.int k2), x4, x5, none, none, none, none, none, none], g⟩
/-- the tail of widen: rows of which some break the rule -/
theorem widen_rest {T : Tbl} [Fc T "_law_widen" h_widen] [Fc T "_law_named_pair" h_named_pair] [Fc T "_law_test" h_test] [Fc T "_law_one_to_one" h_one_to_one] {n : Nat} {g : List GI} {ns : List Nat} (hs : Sz ns) {r : Rule} (hr : ROk ns r) {rows : List (List Nat)} (hrow : ∀ row ∈ rows, Fill ns row) (hlen : rows.length ≤ 30) {p : Post}
    (hp : ∀ r' env, ROk ns r' → (∀ row ∈ rows, holds r' row = true) → p.rt (.v (eR r')) ⟨Vv (eR r) :: Vv (.lst (rows.map eL)) :: env, g⟩) : (exs ⟨callN T (n + 1), 2, [], whileFuel⟩ wd_t ⟨[Vv (eR r), Vv (.lst (rows.map eL)), Vv (.int (namedPair r).1), Vv (.int (namedPair r).2), none, none, none, none, none, none, none, none], g⟩).wq p := by
  have hz : rows.length ≤ line := by unfold line; omega
  obtain ⟨low, high, hnp, hl, hh, hlh⟩ : ∃ low high, namedPair r = (low, high) ∧ low < ns.length ∧ high < ns.length ∧ low ≤ high := by
    cases r with
    | among f es => exact ⟨f, f, rfl, hr.1, hr.1, Nat.le_refl _⟩
    | mtch f k ps => exact ⟨f, k, rfl, by have := hr.1; have := hr.2.1; omega, hr.2.1, by have := hr.1; omega⟩
    | eith f v k w => exact ⟨f, k, rfl, by have := hr.1; have := hr.2.1; omega, hr.2.1, by have := hr.1; omega⟩
  rw [hnp]
  dsimp only
  have sok := shown_ok hs hrow hl hh
  have h5 := hs.le5 low
  have h5' := hs.le5 high
  have e0 : wd_t = .cons (.asg (.v 4) (.blt .sortedSet (.cons (.lc [11] (.v 11) (.seq (.var 1)) .tt (.tup (.cons (.idx (.var 11) (.var 2)) (.cons (.idx (.var 11) (.var 3)) .nil)))) .nil))) (SL.drop 1 wd_t) := rfl
  rw [e0]
  have e00 : SL.drop 1 wd_t = .cons (.ife (.and (.e (.cmp .Eq (.idx (.var 0) (.c (.int 0))) (.c (.str "match")))) (.e (.call "_law_one_to_one" (.cons (.var 4) .nil)))) (SL.yes (SL.drop 1 wd_t)) .nil) (SL.drop 2 wd_t) := rfl
  rw [e00]
  generalize hD1 : SL.yes (SL.drop 1 wd_t) = D1
  generalize hD2 : SL.drop 2 wd_t = D2
  simp
  refine lc_map (fun row => eP (vl row low, vl row high)) (fun row hm => lcF_ok rfl ?_) ?_
  · have := (hrow row hm).1
    simp [ix_L (l := row) (i := low) (by omega), ix_L (l := row) (i := high) (by omega)]
  · have e1 : rows.map (fun row => eP (vl row low, vl row high)) = (shownOf rows low high).map eP := by simp [shownOf, Function.comp_def]
    have e2 := sorted_P (l := shownOf rows low high) (by simp [shownOf]; omega) (fun p hp => by have := sok p hp; omega) (x := .d (.lst ((shownOf rows low high).map eP))) rfl
    rw [← e1] at e2
    have len2 : (sortP (shownOf rows low high)).length ≤ 30 := by
      have := nodup_le (pasc_nodup (sortP_asc (shownOf rows low high))) fun p hp => sortP_mem.mp hp
      simp [shownOf] at this ⊢
      omega
    have sok2 : ∀ p ∈ sortP (shownOf rows low high), p.1 < vl ns low ∧ p.2 < vl ns high := fun p hp => sok p (sortP_mem.mp hp)
    have sin : ∀ row ∈ rows, (vl row low, vl row high) ∈ sortP (shownOf rows low high) := fun row hm => sortP_mem.mpr (List.mem_map_of_mem (f := fun row => (vl row low, vl row high)) hm)
    simp [hz, e2]
    generalize sortP (shownOf rows low high) = sh at len2 sok2 sin
    have hz2 : sh.length ≤ line := by unfold line; omega
    have small : ∀ p ∈ sh, p.1 < 10 ^ 12 ∧ p.2 < 10 ^ 12 := fun p hp => by have := sok2 p hp; omega
    -- not by a match: an either or an among rule
    have last : ∀ (shv : Option SV), (shv = Vo (sh.map eP) ∨ shv = Vv (.lst (sh.map eP))) → (exs ⟨callN T (n + 1), 2, [], whileFuel⟩ (SL.drop 2 wd_t) ⟨[Vv (eR r), Vv (.lst (rows.map eL)), Vv (.int low), Vv (.int high), shv, none, none, none, none, none, none, none], g⟩).wq p := by
      -- the among rule
      have am : ∀ (shv x6 x7 x8 x9 : Option SV), (shv = Vo (sh.map eP) ∨ shv = Vv (.lst (sh.map eP))) → (exs ⟨callN T (n + 1), 2, [], whileFuel⟩ (SL.drop 3 wd_t) ⟨[Vv (eR r), Vv (.lst (rows.map eL)), Vv (.int low), Vv (.int high), shv, none, x6, x7, x8, x9, none, none], g⟩).wq p := by
        intro shv x6 x7 x8 x9 hshv
        -- with what is given
        have go : ∀ es : List Nat, (∀ a ∈ es, a < vl ns low) → es.length ≤ 5 → ∀ (x10 : Option SV), x10 = Vo (nL es) → (exs ⟨callN T (n + 1), 2, [], whileFuel⟩ (SL.drop 4 wd_t) ⟨[Vv (eR r), Vv (.lst (rows.map eL)), Vv (.int low), Vv (.int high), shv, none, x6, x7, x8, x9, x10, none], g⟩).wq p := by
          rintro es h1 h2 x10 rfl
          have e3 := sorted_N (l := es ++ sh.map (·.1)) (by simp; omega) (x := .d (.lst (nL (es ++ sh.map (·.1))))) rfl
          have e4 := b_addl (x := .d (.lst (nL es))) (y := .d (.lst (nL (sh.map (·.1))))) rfl rfl (by simp [line]; omega)
          simp [nL, Function.comp_def] at e3 e4
          have ok : ROk ns (.among low (sortN (es ++ sh.map (·.1)))) := ⟨hl, sortN_asc _, fun a ha => by
            rcases List.mem_append.mp (sortN_mem.mp ha) with h | h
            · exact h1 a h
            · obtain ⟨p, hp, rfl⟩ := List.mem_map.mp h
              exact (sok2 p hp).1⟩
          have hold : ∀ row ∈ rows, holds (.among low (sortN (es ++ sh.map (·.1)))) row = true := fun row hm => by
            have := sin row hm
            simp only [holds, List.contains_iff_mem]
            exact sortN_mem.mpr (List.mem_append.mpr (.inr (List.mem_map_of_mem (f := (·.1)) this)))
          rcases hshv with rfl | rfl
          all_goals
            simp [wd_t, h_widen, SL.drop]
            refine lc_wipe (h := fun p => [.int p.1]) (fun q hq => lcF_ok rfl ?_) ?_ fun h => ?_
            · simp
            · rw [flat_sing]
              simp [hz2, e3, e4]
              exact hp _ _ ok hold
            · subst h
              simp at e3 e4
              simp [e3, e4]
              exact hp _ _ (by simpa using ok) (by simpa using hold)
        have ec : SL.drop 3 wd_t = .cons (.asg (.v 10) (.ifx (.e (.cmp .Eq (.idx (.var 0) (.c (.int 0))) (.c (.str "among")))) (.blt .list (.cons (.idx (.var 0) (.c (.int 2))) .nil)) (.lst .nil))) (SL.drop 4 wd_t) := rfl
        rw [ec]
        generalize SL.drop 4 wd_t = D at go
        have g0 := go [] (fun a h => by cases h) (by decide) _ rfl
        cases r with
        | among f es =>
          obtain ⟨q1, q2, q3⟩ := hr
          have hfl : f = low := by cases hnp; rfl
          subst hfl
          have := asc_len q2 q3
          have i2 : ∀ es : List Nat, DV.seq (.v (eL es)) = some (nL es) := fun _ => rfl
          simp only [eR] at go
          simp [eR, i2]
          exact go es q3 (by omega) _ rfl
        | mtch f k2 ps =>
          simp only [eR] at g0
          simp [eR]
          exact g0
        | eith f v k2 w =>
          simp only [eR] at g0
          simp [eR]
          exact g0
      intro shv hshv
      have ec : SL.drop 2 wd_t = .cons (.ife (.e (.cmp .NotEq (.idx (.var 0) (.c (.int 0))) (.c (.str "among")))) (SL.yes (SL.drop 2 wd_t)) .nil) (SL.drop 3 wd_t) := rfl
      rw [ec]
      generalize SL.drop 3 wd_t = D at am
      -- search for an either rule
      have sea : (exs ⟨callN T (n + 1), 2, [], whileFuel⟩ (SL.yes (SL.drop 2 wd_t)) ⟨[Vv (eR r), Vv (.lst (rows.map eL)), Vv (.int low), Vv (.int high), shv, none, none, none, none, none, none, none], g⟩).wq { p with nx := fun st => (exs ⟨callN T (n + 1), 2, [], whileFuel⟩ D st).wq p } ∨ ¬ low < high := by
        by_cases hlt : low < high
        · refine .inl ?_
          rcases hshv with rfl | rfl
          all_goals
            simp [wd_t, h_widen, SL.drop, SL.yes]
            refine for_map (fun _ st => ∃ x6 x7 x8 x9, st = ⟨[Vv (eR r), Vv (.lst (rows.map eL)), Vv (.int low), Vv (.int high), Vv (.lst (sh.map eP)), none, x6, x7, x8, x9, none, none], g⟩) ?_ ⟨_, _, _, _, rfl⟩ ?_
            · rintro pre ⟨a, more⟩ post st e ⟨x6, x7, x8, x9, rfl⟩
              have ma : (a, more) ∈ sh := by rw [e]; simp
              simp
              refine for_map (fun _ st => ∃ x8 x9, st = ⟨[Vv (eR r), Vv (.lst (rows.map eL)), Vv (.int low), Vv (.int high), Vv (.lst (sh.map eP)), none, Vv (.int a), Vv (.int more), x8, x9, none, none], g⟩) ?_ ⟨_, _, rfl⟩ ?_
              · rintro pre ⟨less, b⟩ post st e ⟨x8, x9, rfl⟩
                have mb : (less, b) ∈ sh := by rw [e]; simp
                simp
                refine lc_filter (fun p => !(p.1 == a) && !(p.2 == b)) eP (fun p hp => lcF_ok rfl ?_) ?_
                · obtain ⟨u, v⟩ := p
                  by_cases c1 : u = a <;> by_cases c2 : v = b <;> simp [c1, c2]
                · have lz := List.length_filter_le (fun p : Pr => !(p.1 == a) && !(p.2 == b)) sh
                  have e3 := nil_P (l := sh.filter fun p => !(p.1 == a) && !(p.2 == b)) (x := .d (.lst ((sh.filter fun p => !(p.1 == a) && !(p.2 == b)).map eP))) (fun p hp => small p (List.mem_filter.mp hp).1) rfl
                  have hz3 : (sh.filter fun p => !(p.1 == a) && !(p.2 == b)).length ≤ line := by unfold line; omega
                  cases q : (sh.filter fun p => !(p.1 == a) && !(p.2 == b)).isEmpty with
                  | true =>
                    rw [q] at e3
                    simp [hz3, e3]
                    refine hp (.eith low a high b) _ ⟨hlt, hh, (sok2 _ ma).1, (sok2 _ mb).2⟩ fun row hm => ?_
                    have := sin row hm
                    rw [List.isEmpty_iff, List.filter_eq_nil_iff] at q
                    have := q _ this
                    simp [holds] at this ⊢
                    by_cases c : vl row low = a
                    · exact .inl c
                    · exact .inr (this c)
                  | false =>
                    rw [q] at e3
                    simp [hz3, e3]
              · rintro st ⟨x8, x9, rfl⟩
                exact ⟨_, _, _, _, rfl⟩
            · rintro st ⟨x6, x7, x8, x9, rfl⟩
              simp
              exact am _ _ _ _ _ (.inr rfl)
        · exact .inr hlt
      generalize SL.yes (SL.drop 2 wd_t) = D2 at sea
      cases r with
      | among f es =>
        have := am shv none none none none hshv
        simp only [eR] at this
        simp [eR]
        exact this
      | mtch f k2 ps =>
        have := sea.resolve_right fun h => h (by cases hnp; exact hr.1)
        simp only [eR] at this
        simp [eR]
        exact this
      | eith f v k2 w =>
        have := sea.resolve_right fun h => h (by cases hnp; exact hr.1)
        simp only [eR] at this
        simp [eR]
        exact this
    cases r with
    | among f es =>
      have := last _ (.inl rfl)
      rw [hD2] at this
      simp only [eR] at this
      simp [eR]
      exact this
    | eith f v k2 w =>
      have := last _ (.inl rfl)
      rw [hD2] at this
      simp only [eR] at this
      simp [eR]
      exact this
    | mtch f k2 ps =>
      cases q : one1 sh with
      | false =>
        have := last _ (.inr rfl)
        rw [hD2] at this
        simp only [eR] at this
        simp [eR, one_to_one_eq (l := sh) (by omega) (.inl rfl), q]
        exact this
      | true =>
        have p5 := ROk.small hs hr
        have hr0 := hr
        obtain ⟨r1, r2, r3, r4, r5⟩ := hr
        have : f = low ∧ k2 = high := by cases hnp; exact ⟨rfl, rfl⟩
        obtain ⟨rfl, rfl⟩ := this
        simp [eR, one_to_one_eq (l := sh) (by omega) (.inl rfl), q]
        rw [← hD1]
        simp [wd_t, h_widen, SL.drop, SL.yes]
        refine for_map (MtP ns rows sh f k2 ps g) ?_ ⟨sh, _, _, .inr rfl, q, sok2, fun _ h => h, by simpa using len2, rfl⟩ ?_
        · rintro pre pr post st e ⟨l, x4, x5, hx4, l1, l2, l3, l4, rfl⟩
          have hm : pr ∈ ps := by rw [e]; simp
          have le := congrArg List.length e
          simp at le
          have ba := b_addl (x := .d (.lst (l.map eP))) (y := .d (.lst [eP pr])) rfl rfl (by simp [line]; omega)
          have bv := b_addl (x := .v (.lst (l.map eP))) (y := .d (.lst [eP pr])) rfl rfl (by simp [line]; omega)
          rw [eP_add] at ba bv
          have o := fun n => one_to_one_eq (T := T) (n := n) (g := g) (l := l ++ [pr]) (by simp; omega) (.inl rfl)
          simp only [List.map_append, List.map_cons, List.map_nil] at o ba bv
          rcases hx4 with rfl | rfl
          all_goals
            cases q2 : one1 (l ++ [pr]) with
            | true =>
              simp [ba, bv, o, q2]
              exact ⟨l ++ [pr], _, Vv (eP pr), .inl rfl, q2, fun x hx => by
                rcases List.mem_append.mp hx with h | h
                · exact l2 x h
                · simp at h
                  rw [h]
                  exact r5 pr hm, fun x hx => List.mem_append.mpr (.inl (l3 x hx)), by simp; omega, by simp⟩
            | false =>
              simp [ba, bv, o, q2]
              exact ⟨l, _, _, by simp, l1, l2, l3, by simp; omega, rfl⟩
        · rintro st ⟨l, x4, x5, hx4, l1, l2, l3, l4, rfl⟩
          have b5 := hs.le5 f
          have b5' := hs.le5 k2
          have e3 := sorted_P (l := l) (by omega) (fun p hp => by have := l2 p hp; omega) (x := .d (.lst (l.map eP))) rfl
          have e4 := sorted_P (l := l) (by omega) (fun p hp => by have := l2 p hp; omega) (x := .v (.lst (l.map eP))) rfl
          obtain ⟨o1, o2⟩ := one1_perm l1 (sortP_asc l) fun p => sortP_mem
          have ok : ROk ns (.mtch f k2 (sortP l)) := ⟨r1, r2, o1, o2, fun p hp => l2 p (sortP_mem.mp hp)⟩
          have hold : ∀ row ∈ rows, holds (.mtch f k2 (sortP l)) row = true := fun row hm => by
            simp only [holds, List.contains_iff_mem]
            exact sortP_mem.mpr (l3 _ (sin row hm))
          rcases hx4 with rfl | rfl
          all_goals
            simp [e3, e4]
            exact hp _ _ ok hold
theorem widen_wp {T : Tbl} [Fc T "_law_widen" h_widen] [Fc T "_law_named_pair" h_named_pair] [Fc T "_law_test" h_test] [Fc T "_law_one_to_one" h_one_to_one] {n : Nat} {g : List GI} {q : SV → List SV → List GI → Prop} {e : XV → List SV → List GI → Prop} {ns : List Nat} (hs : Sz ns) {r : Rule} (hr : ROk ns r) {rows : List (List Nat)} (hrow : ∀ row ∈ rows, Fill ns row) (hlen : rows.length ≤ 30) {a : SV} (ha : a = .own (.lst (rows.map eL)) ∨ a = .v (.lst (rows.map eL)))
    (k : ∀ r', ROk ns r' → (∀ row ∈ rows, holds r' row = true) → q (.v (eR r')) [.v (eR r), .v (.lst (rows.map eL))] g) : (callN T (n + 2) "_law_widen" [.v (eR r), a] g).wq q e := by
  have hz : rows.length ≤ line := by unfold line; omega
  have tst := fun n row (h : row ∈ rows) => test_eq (T := T) (n := n) (g := g) hs hr (hrow row h)
  have e1 := nil_rows hs (l := rows.filter fun row => !holds r row) (x := .d (.lst ((rows.filter fun row => !holds r row).map eL))) (fun x hx => hrow x (List.mem_filter.mp hx).1) rfl
  have lz := List.length_filter_le (fun row => !holds r row) rows
  rcases ha with rfl | rfl
  all_goals
    refine run_in (Fc.at_ : T "_law_widen" = some h_widen) rfl rfl ?_
    change (exs _ (.cons _ (.cons _ wd_t)) _).wq _
    simp [named_pair_eq]
    refine lc_filter (fun row => !holds r row) eL (fun row hm => lcF_ok rfl ?_) ?_
    · cases q : holds r row <;> simp [tst _ row hm, q]
    · have hzz : (rows.filter fun row => !holds r row).length ≤ line := by unfold line; omega
      cases q : (rows.filter fun row => !holds r row).isEmpty with
      | true =>
        rw [q] at e1
        simp [hzz, e1]
        refine k r hr fun row hm => ?_
        rw [List.isEmpty_iff, List.filter_eq_nil_iff] at q
        simpa using q row hm
      | false =>
        rw [q] at e1
        simp [hzz, e1]
        refine widen_rest hs hr hrow hlen fun r' env h1 h2 => ?_
        simp
        exact k r' h1 h2
end Q
end
section
set_option maxHeartbeats 4000000
namespace Q
open PySem Q.M
theorem draw_kept_rest {T : Tbl} [Fc T "_law_draw_kept" h_draw_kept] [Fc T "_law_take" h_take] [Fc T "_law_widen" h_widen] [Fc T "_law_named_pair" h_named_pair] [Fc T "_law_test" h_test] [Fc T "_law_one_to_one" h_one_to_one] [Fc T "_law_draw_clause" h_draw_clause] [Fc T "_law_draw_table" h_draw_table] {n : Nat} {g : List GI} {m far : Nat} {ns : List Nat} (hs : Sz ns) {rows : List (List Nat)} (hrow : ∀ row ∈ rows, Fill ns row) (hlen : rows.length ≤ 30) (hf : far ≤ 20) (hm : m ≤ 700000)
    (way many : Nat) (ys : List PV) (a0 : SV) (ha0 : a0 = .own (.lst (rows.map eL)) ∨ a0 = .v (.lst (rows.map eL))) (hmany : many ≤ far) (hy : BagOk (m + 2) ys) (p : Post) (hp : ∀ B xs' a' env, BOk ns B → (∀ row ∈ rows, Keeps B row) → B.length ≤ far → BagOk (m + 500) xs' → (a' = a0 ∨ a' = .v (.lst (rows.map eL))) → p.rt (.v (eB B)) ⟨Vo xs' :: Vv (eL ns) :: some a' :: Vv (.int far) :: env, g⟩) : (exs ⟨callN T (n + 3), 4, [], whileFuel⟩ (SL.drop 2 h_draw_kept.body) ⟨[Vo ys, Vv (eL ns), some a0, Vv (.int far), Vv (.int way), Vv (.int many), none], g⟩).wq p := by
  simp [h_draw_kept, SL.drop, r_0 (n := many) (by omega)]
  refine lc_inv (fun pre acc st => ∃ (B : List Rule) (ys : List PV) (a' : SV), acc = B.map eR ∧ B.length = pre.length ∧ BOk ns B ∧ (∀ row ∈ rows, Keeps B row) ∧ BagOk (m + 2 + 20 * pre.length) ys ∧ (a' = a0 ∨ a' = .v (.lst (rows.map eL))) ∧ st = ⟨[Vo ys, Vv (eL ns), some a', Vv (.int far), Vv (.int way), Vv (.int many), none], g⟩) ?_ ⟨[], ys, a0, rfl, rfl, fun r h => (by cases h), fun row _ r h => (by cases h), hy, .inl rfl, rfl⟩ ?_
  · rintro pre i post acc st e ⟨B, ys, a', rfl, hl, hB, hK, hy, ha', rfl⟩
    obtain ⟨r1, _, _⟩ := range_pre e
    have key : ∀ r, ROk ns r → (∀ row ∈ rows, holds r row = true) → BOk ns (B ++ [r]) ∧ (∀ row ∈ rows, Keeps (B ++ [r]) row) := fun r hr hh => by
      refine ⟨fun x hx => ?_, fun row hm x hx => ?_⟩
      · rcases List.mem_append.mp hx with hx | hx
        · exact hB x hx
        · simp at hx
          rw [hx]
          exact hr
      · rcases List.mem_append.mp hx with hx | hx
        · exact hK row hm x hx
        · simp at hx
          rw [hx]
          exact hh row hm
    refine lcF_ok rfl ?_
    have ha2 : a' = .own (.lst (rows.map eL)) ∨ a' = .v (.lst (rows.map eL)) := by rcases ha' with h | h; rw [h]; exact ha0; exact .inr h
    rcases ha2 with rfl | rfl
    all_goals
      simp
      refine draw_clause_wp hs hy (by omega) fun r ys' hr hy' => ?_
      simp
      refine widen_wp hs hr hrow hlen (by first | exact .inl rfl | exact .inr rfl) fun r' hr' hh => ?_
      simp
      exact ⟨B ++ [r'], by simp, by simp [hl], (key r' hr' hh).1, (key r' hr' hh).2, ys', hy'.up (by omega), .inr rfl⟩
  · rintro r st ⟨B, ys, a', rfl, hl, hB, hK, hy, ha', rfl⟩
    simp at hl hy
    have hz : B.length ≤ line := by unfold line; omega
    simp [hz]
    exact hp B ys a' _ hB hK (by omega) (hy.up (by omega)) ha'
theorem draw_kept_wp {T : Tbl} [Fc T "_law_draw_kept" h_draw_kept] [Fc T "_law_take" h_take] [Fc T "_law_widen" h_widen] [Fc T "_law_named_pair" h_named_pair] [Fc T "_law_test" h_test] [Fc T "_law_one_to_one" h_one_to_one] [Fc T "_law_draw_clause" h_draw_clause] [Fc T "_law_draw_table" h_draw_table] {n : Nat} {g : List GI} {q : SV → List SV → List GI → Prop} {e : XV → List SV → List GI → Prop} {m far : Nat} {ns : List Nat} {xs : List PV} (hs : Sz ns) {rows : List (List Nat)} (hrow : ∀ row ∈ rows, Fill ns row) (hlen : rows.length ≤ 30) (hf : far ≤ 20) (hb : BagOk m xs) (hm : m ≤ 700000) {a : SV} (ha : a = .own (.lst (rows.map eL)) ∨ a = .v (.lst (rows.map eL)))
    (k : ∀ B xs' a', BOk ns B → (∀ row ∈ rows, Keeps B row) → B.length ≤ far → BagOk (m + 500) xs' → (a' = .own (.lst (rows.map eL)) ∨ a' = .v (.lst (rows.map eL))) → q (.v (eB B)) [.own (.lst xs'), .v (eL ns), a', .v (.int far)] g) : (callN T (n + 4) "_law_draw_kept" [.own (.lst xs), .v (eL ns), a, .v (.int far)] g).wq q e := by
  have rest := fun m way many ys a0 ha0 => draw_kept_rest (T := T) (n := n) (g := g) (m := m) (far := far) hs hrow hlen hf (way := way) (many := many) (ys := ys) (a0 := a0) (ha0 := ha0)
  generalize hD : SL.drop 2 h_draw_kept.body = D at rest
  have ed : h_draw_kept.body = .cons (.asg (.v 4) (.call "_law_take" (.cons (.var 0) (.cons (.c (.int 3)) .nil)))) (.cons (.asg (.v 5) (.ifx (.e (.cmp .Eq (.var 4) (.c (.int 0)))) (.var 3) (.call "_law_take" (.cons (.var 0) (.cons (.bin .Add (.var 3) (.c (.int 1))) .nil))))) D) := by
    rw [← hD]
    rfl
  rcases ha with rfl | rfl
  all_goals
    refine run_in (Fc.at_ : T "_law_draw_kept" = some h_draw_kept) rfl rfl ?_
    change (exs _ h_draw_kept.body _).wq _
    rw [ed]
    simp
    refine take_wp (many := 3) (by omega) (by omega) hb (by omega) fun way xs1 _ hb1 => ?_
    by_cases w0 : way = 0
    · simp [eq_true w0]
      refine rest m way far xs1 _ (by first | exact Or.inl rfl | exact Or.inr rfl) (by omega) (Nat.le_refl _) (hb1.up (by omega)) _ fun B xs' a' env h1 h2 h3 h4 h5 => ?_
      rcases h5 with rfl | rfl <;> exact k B xs' _ h1 h2 h3 h4 (by first | exact Or.inl rfl | exact Or.inr rfl)
    · obtain ⟨z, hz⟩ : ∃ z : Nat, ((far : Int) + 1) = z := ⟨far + 1, by omega⟩
      simp [w0, hz]
      refine take_wp (many := z) (by omega) (by omega) hb1 (by omega) fun many xs2 _ hb2 => ?_
      simp
      refine rest m way many xs2 _ (by first | exact Or.inl rfl | exact Or.inr rfl) (by omega) (by omega) (hb2.up (by omega)) _ fun B xs' a' env h1 h2 h3 h4 h5 => ?_
      rcases h5 with rfl | rfl <;> exact k B xs' _ h1 h2 h3 h4 (by first | exact Or.inl rfl | exact Or.inr rfl)
theorem r_2 {a b : Nat} (h0 : a ≤ 16777216) (h : b ≤ 16777216) : rngO2 (.v (.int (a : Int))) (.v (.int (b : Int))) = some ((List.range' a (b - a)).map fun (i : Nat) => .int i) := by
  unfold rngO2
  dsimp only
  rw [if_pos (by refine ⟨?_, ?_, ?_⟩ <;> simp [big, line] <;> omega)]
  unfold ranged
  refine congrArg some (List.ext_getElem (by simp) fun i h1 h2 => ?_)
  simp at h1 h2
  simp
theorem r_2s {a b : Nat} (h0 : a < 16777216) (h : b ≤ 16777216) : rngO2 (.v (.int ((a : Int) + 1))) (.v (.int (b : Int))) = some ((List.range' (a + 1) (b - (a + 1))).map fun (i : Nat) => .int i) := r_2 (a := a + 1) (by omega) h
theorem toldP {ns a b : List Nat} (ha : Fill ns a) (hb : Fill ns b) {f k : Nat} (h1 : f < k) (h2 : k < ns.length) (e1 : vl a f ≠ vl b f) (e2 : vl a k ≠ vl b k) : ROk ns (.mtch f k (sortP [(vl a f, vl a k), (vl b f, vl b k)])) := by
  have o := one1_perm (l := [(vl a f, vl a k), (vl b f, vl b k)]) (k := sortP [(vl a f, vl a k), (vl b f, vl b k)]) (by simp [one1, nd, e1, e2]) (sortP_asc _) fun p => sortP_mem
  refine ⟨h1, h2, o.1, o.2, fun p hp => ?_⟩
  have := sortP_mem.mp hp
  simp at this
  rcases this with rfl | rfl
  · exact ⟨ha.2 f (by omega), ha.2 k h2⟩
  · exact ⟨hb.2 f (by omega), hb.2 k h2⟩
theorem toldN {ns a b : List Nat} (ha : Fill ns a) (hb : Fill ns b) {f : Nat} (h1 : f < ns.length) : ROk ns (.among f (sortN [vl a f, vl b f])) := by
  refine ⟨h1, sortN_asc _, fun x hx => ?_⟩
  have := sortN_mem.mp hx
  simp at this
  rcases this with rfl | rfl
  · exact ha.2 f h1
  · exact hb.2 f h1
theorem BOk.add {ns : List Nat} {B : List Rule} {r : Rule} (h : BOk ns B) (hr : ROk ns r) : BOk ns (B ++ [r]) := fun x hx => by
  rcases List.mem_append.mp hx with hx | hx
  · exact h x hx
  · simp at hx
    rw [hx]
    exact hr
theorem sortP_le (l : List Pr) : (sortP l).length ≤ l.length := nodup_le (pasc_nodup (sortP_asc l)) fun x hx => sortP_mem.mp hx
def TwA (ns a b : List Nat) (g : List GI) (pre : List Nat) (st : ST) : Prop := ∃ B x4 x5, BOk ns B ∧ B.length ≤ pre.length ∧ st = ⟨[Vv (eL ns), Vv (eL a), Vv (eL b), Vo (B.map eR), x4, x5, none, none, none], g⟩
def TwB (ns a b : List Nat) (g : List GI) (pre : List Nat) (st : ST) : Prop := ∃ B x4 x5 x6 x7 x8, BOk ns B ∧ B.length ≤ 8 + 8 * pre.length ∧ st = ⟨[Vv (eL ns), Vv (eL a), Vv (eL b), Vo (B.map eR), x4, x5, x6, x7, x8], g⟩
def TwC (ns a b : List Nat) (g : List GI) (i m : Nat) (pre : List Nat) (st : ST) : Prop := ∃ B x4 x5 x7 x8, BOk ns B ∧ B.length ≤ m + pre.length ∧ st = ⟨[Vv (eL ns), Vv (eL a), Vv (eL b), Vo (B.map eR), x4, x5, Vv (.int i), x7, x8], g⟩
theorem told_by_two_wp {T : Tbl} [Fc T "_law_told_by_two" h_told_by_two] {n : Nat} {g : List GI} {q : SV → List SV → List GI → Prop} {e : XV → List SV → List GI → Prop} {ns a b : List Nat} (hs : Sz ns) (ha : Fill ns a) (hb : Fill ns b)
    (k : ∀ B, BOk ns B → B.length ≤ 72 → q (.v (eB B)) [.v (eL ns), .v (eL a), .v (eL b)] g) : (callN T (n + 1) "_law_told_by_two" [.v (eL ns), .v (eL a), .v (eL b)] g).wq q e := by
  refine run_in (Fc.at_ : T "_law_told_by_two" = some h_told_by_two) rfl rfl ?_
  have l1 := ha.1
  have l2 := hb.1
  have h8 := hs.hi
  simp [r_0 (n := ns.length) (by omega)]
  refine for_map (TwA ns a b g) ?_ ⟨[], _, _, fun r h => (by cases h), Nat.zero_le _, rfl⟩ ?_
  · rintro pre i post st e ⟨B, x4, x5, hB, hl, rfl⟩
    obtain ⟨r1, rfl, _⟩ := range_pre e
    have so := sorted_N (l := [vl a pre.length, vl b pre.length]) (by simp) (x := .d (.lst [.int (vl a pre.length), .int (vl b pre.length)])) rfl
    have bl : (sortN [vl a pre.length, vl b pre.length]).length ≤ line := by
      have := asc_len (s := 64) (sortN_asc [vl a pre.length, vl b pre.length]) fun x hx => by
        have := (toldN ha hb r1).2.2 x hx
        have := hs.le5 pre.length
        omega
      unfold line
      omega
    have hBl : B.length < line := by unfold line; omega
    by_cases c : (sortN [vl a pre.length, vl b pre.length]).length < vl ns pre.length
    · simp [ix_L (l := ns) (i := pre.length) r1, ix_L (l := a) (i := pre.length) (by omega), ix_L (l := b) (i := pre.length) (by omega), so, c, bl, hBl]
      exact ⟨B ++ [Rule.among pre.length (sortN [vl a pre.length, vl b pre.length])], Vv (.int pre.length), Vo (nL (sortN [vl a pre.length, vl b pre.length])), BOk.add hB (toldN ha hb r1), by simp; omega, by simp [eR, eL]⟩
    · simp [ix_L (l := ns) (i := pre.length) r1, ix_L (l := a) (i := pre.length) (by omega), ix_L (l := b) (i := pre.length) (by omega), so, c, bl, hBl]
      exact ⟨B, _, _, hB, by simp; omega, rfl⟩
  · rintro st ⟨B, x4, x5, hB, hl, rfl⟩
    simp at hl
    simp [r_0 (n := ns.length) (by omega)]
    refine for_map (TwB ns a b g) ?_ ⟨B, _, _, _, _, _, hB, by simp; omega, rfl⟩ ?_
    · rintro pre i post st e ⟨B, x4, x5, x6, x7, x8, hB, hl, rfl⟩
      have r1 := (range_pre e).1
      have hi := (range_pre e).2.1
      have r2 := r_2s (a := i) (b := ns.length) (by omega) (by omega)
      simp [r2]
      refine for_map (TwC ns a b g i (8 + 8 * pre.length)) ?_ ⟨B, _, _, _, _, hB, by simp; omega, rfl⟩ ?_
      · rintro pre2 j post2 st e2 ⟨B, x4, x5, x7, x8, hB, hl, rfl⟩
        have mj : j ∈ List.range' (i + 1) (ns.length - (i + 1)) := by rw [e2]; simp
        rw [List.mem_range'_1] at mj
        have so := sorted_P (l := [(vl a i, vl a j), (vl b i, vl b j)]) (by simp) (fun p hp => by
          have := hs.le5 i
          have := hs.le5 j
          have := ha.2 i (by omega)
          have := ha.2 j (by omega)
          have := hb.2 i (by omega)
          have := hb.2 j (by omega)
          simp at hp
          rcases hp with rfl | rfl <;> simp <;> omega) (x := .d (.lst [eP (vl a i, vl a j), eP (vl b i, vl b j)])) rfl
        have bl : (sortP [(vl a i, vl a j), (vl b i, vl b j)]).length ≤ line := by
          have := sortP_le [(vl a i, vl a j), (vl b i, vl b j)]
          simp at this
          unfold line
          omega
        have i1 := ix_L (l := a) (i := i) (by omega)
        have i2 := ix_L (l := a) (i := j) (by omega)
        have i3 := ix_L (l := b) (i := i) (by omega)
        have i4 := ix_L (l := b) (i := j) (by omega)
        have hpre : pre2.length < ns.length := by
          have le := congrArg List.length e2
          simp at le
          omega
        have hBl : B.length < line := by unfold line; omega
        by_cases c1 : vl a i = vl b i
        · simp [i1, i2, i3, i4, so, eq_true c1]
          exact ⟨B, _, _, _, _, hB, by simp; omega, rfl⟩
        · by_cases c2 : vl a j = vl b j
          · simp [i1, i2, i3, i4, so, c1, eq_true c2]
            exact ⟨B, _, _, _, _, hB, by simp; omega, rfl⟩
          · simp [i1, i2, i3, i4, so, c1, c2, bl, hBl]
            exact ⟨B ++ [Rule.mtch i j (sortP [(vl a i, vl a j), (vl b i, vl b j)])], _, _, _, _, BOk.add hB (toldP ha hb (by omega) (by omega) c1 c2), by simp; omega, by simp [eR, ePs]; exact ⟨rfl, rfl, rfl, rfl⟩⟩
      · rintro st ⟨B, x4, x5, x7, x8, hB, hl, rfl⟩
        simp at hl
        exact ⟨B, _, _, _, _, _, hB, by simp; omega, rfl⟩
    · rintro st ⟨B, x4, x5, x6, x7, x8, hB, hl, rfl⟩
      simp at hl
      have hz : B.length ≤ line := by unfold line; omega
      simp [hz]
      exact k B hB (by omega)
end Q
end
section
set_option maxHeartbeats 4000000
namespace Q
open PySem Q.M
/-! ### small sheets, all their fillings -/
def vol (ns : List Nat) : Nat := ns.foldl (· * ·) 1
theorem vol_up : ∀ (l : List Nat) (a : Nat), (∀ x ∈ l, 1 ≤ x) → a ≤ l.foldl (· * ·) a
  | [], a, _ => Nat.le_refl _
  | x :: l, a, h => by
    have h1 := vol_up l (a * x) fun y hy => h y (by simp [hy])
    have h2 := Nat.mul_le_mul_left a (h x (by simp))
    rw [List.foldl_cons]
    omega
theorem vol_add {l : List Nat} {a : Nat} : vol (l ++ [a]) = vol l * a := by simp [vol]
theorem vol_pre {pre post : List Nat} (h : ∀ x ∈ post, 1 ≤ x) : vol pre ≤ vol (pre ++ post) := by
  unfold vol
  rw [List.foldl_append]
  exact vol_up _ _ h
theorem draw_small_wp {T : Tbl} [Fc T "_law_draw_small" h_draw_small] [Fc T "_law_take" h_take] {n : Nat} {g : List GI} {q : SV → List SV → List GI → Prop} {e : XV → List SV → List GI → Prop} {m far : Nat} {xs : List PV} (hb : BagOk m xs) (hm : m ≤ 900000) (f1 : 1 ≤ far) (f2 : far ≤ 60)
    (k : ∀ ns xs', Sz ns → vol ns ≤ far → BagOk (m + 10) xs' → q (.v (eL ns)) [.own (.lst xs'), .v (.int far)] g) : (callN T (n + 2) "_law_draw_small" [.own (.lst xs), .v (.int far)] g).wq q e := by
  refine run_in (Fc.at_ : T "_law_draw_small" = some h_draw_small) rfl rfl ?_
  simp
  refine take_wp (many := 8) (by omega) (by omega) hb (by omega) fun d xs1 d1 hb1 => ?_
  obtain ⟨z, hz⟩ : ∃ z : Nat, (1 : Int) + d = z := ⟨1 + d, by omega⟩
  simp [hz, r_0 (n := z) (by omega)]
  refine for_map (fun pre st => ∃ ns ys x5 x6, ns.length = pre.length ∧ (∀ a ∈ ns, 1 ≤ a ∧ a ≤ 5) ∧ vol ns ≤ far ∧ 1 ≤ vol ns ∧ BagOk (m + 1 + pre.length) ys ∧ st = ⟨[Vo ys, Vv (.int far), Vv (.int z), Vo (nL ns), Vv (.int (vol ns)), x5, x6], g⟩) ?_ ⟨[], xs1, none, none, rfl, fun a h => (by cases h), by simp [vol]; omega, by simp [vol], hb1, by simp [vol]⟩ ?_
  · rintro pre i post st e ⟨ns, ys, x5, x6, hl, hn, hv, hv1, hy, rfl⟩
    obtain ⟨r1, _, _⟩ := range_pre e
    simp
    refine take_wp (many := 5) (by omega) (by omega) hy (by omega) fun t ys' ht hy' => ?_
    obtain ⟨s, hs⟩ : ∃ s : Nat, (1 : Int) + t = s := ⟨1 + t, by omega⟩
    simp [hs]
    have le := congrArg List.length e
    simp at le
    have hz' : ns.length < line := by unfold line; omega
    have mo : ∀ u : Nat, u ≤ 5 → mulOk (vol ns : Int) u = true := fun u hu => mul_ok (k := 10) (l := 10) (by simp; omega) (by simp; omega) (by decide) (by decide) (by decide)
    refine whl_wp (fun u st => 1 ≤ u ∧ u ≤ 5 ∧ st = ⟨[Vo ys', Vv (.int far), Vv (.int z), Vo (nL ns), Vv (.int (vol ns)), Vv (.int i), Vv (.int u)], g⟩) ?_ (m := s) ⟨by omega, by omega, rfl⟩ (by unfold whileFuel; omega)
    rintro u st ⟨u1, u5, rfl⟩
    by_cases c : far < vol ns * u
    · have c' : ((far : Nat) : Int) < (vol ns : Int) * (u : Int) := by exact_mod_cast c
      simp [b_mul (mo u u5), c']
      have hu : 1 < u := by
        rcases Nat.lt_or_ge 1 u with h | h
        · exact h
        · have : u = 1 := by omega
          subst this
          omega
      obtain ⟨u', hu'⟩ : ∃ u', u = u' + 1 := ⟨u - 1, by omega⟩
      subst hu'
      exact ⟨u', by omega, by omega, by omega, by simp⟩
    · have c' : ¬ ((far : Nat) : Int) < (vol ns : Int) * (u : Int) := by
        intro h
        exact c (by exact_mod_cast h)
      simp [b_mul (mo u u5), c', hz']
      refine ⟨ns ++ [u], by simp [hl], fun a ha => ?_, by rw [vol_add]; omega, ?_, ys', hy'.up (by omega), rfl, by simp, by simp [vol_add]⟩
      · rcases List.mem_append.mp ha with h | h
        · exact hn a h
        · simp at h
          omega
      · rw [vol_add]
        exact Nat.mul_pos hv1 u1
  · rintro st ⟨ns, ys, x5, x6, hl, hn, hv, hv1, hy, rfl⟩
    simp at hl hy
    have hz' : ns.length ≤ line := by unfold line; omega
    simp [hz']
    exact k ns ys (Sz.of (by omega) (by omega) hn) hv (hy.up (by omega))
/-! all the fillings -/
def rowsF (F : List (List Nat)) (s : Nat) : List (List Nat) := F.flatMap fun row => (List.range s).map fun i => row ++ [i]
def rowsOf (ns : List Nat) : List (List Nat) := ns.foldl rowsF [[]]
theorem Fill.nil {row : List Nat} : Fill [] row ↔ row = [] := by
  constructor
  · intro h
    exact List.length_eq_zero_iff.mp h.1
  · rintro rfl
    exact ⟨rfl, fun f hf => by simp at hf⟩
theorem Fill.cons {s i : Nat} {ns row : List Nat} : Fill (s :: ns) (i :: row) ↔ i < s ∧ Fill ns row := by
  constructor
  · rintro ⟨h1, h2⟩
    exact ⟨h2 0 (by simp), by simpa using h1, fun f hf => h2 (f + 1) (by simp; omega)⟩
  · rintro ⟨h1, h2, h3⟩
    refine ⟨by simp [h2], fun f hf => ?_⟩
    cases f with
    | zero => exact h1
    | succ f => exact h3 f (by simpa using hf)
theorem rowsF_mem : ∀ (ns : List Nat) (F : List (List Nat)) (row : List Nat), row ∈ ns.foldl rowsF F ↔ ∃ a b, a ∈ F ∧ row = a ++ b ∧ Fill ns b
  | [], F, row => by
    simp [Fill.nil]
  | s :: ns, F, row => by
    rw [List.foldl_cons, rowsF_mem ns]
    constructor
    · rintro ⟨a, b, ha, rfl, hb⟩
      simp [rowsF] at ha
      obtain ⟨a', ha', i, hi, rfl⟩ := ha
      exact ⟨a', i :: b, ha', by simp, Fill.cons.mpr ⟨hi, hb⟩⟩
    · rintro ⟨a, b, ha, rfl, hb⟩
      cases b with
      | nil => exact absurd hb.1 (by simp)
      | cons i b =>
        obtain ⟨h1, h2⟩ := Fill.cons.mp hb
        exact ⟨a ++ [i], b, by simp [rowsF]; exact ⟨ha, h1⟩, by simp, h2⟩
theorem rowsOf_mem {ns row : List Nat} : row ∈ rowsOf ns ↔ Fill ns row := by
  unfold rowsOf
  rw [rowsF_mem]
  constructor
  · rintro ⟨a, b, ha, rfl, hb⟩
    simp at ha
    rw [ha]
    exact hb
  · exact fun h => ⟨[], row, by simp, rfl, h⟩
theorem rowsF_len {F : List (List Nat)} {s : Nat} : (rowsF F s).length = F.length * s := by
  unfold rowsF
  induction F with
  | nil => simp
  | cons a F ih => rw [List.flatMap_cons, List.length_append, ih]; simp; rw [Nat.succ_mul, Nat.add_comm]
theorem rowsOf_len : ∀ (ns : List Nat) (F : List (List Nat)) (a : Nat), F.length = a → (ns.foldl rowsF F).length = ns.foldl (· * ·) a
  | [], F, a, h => h
  | s :: ns, F, a, h => rowsOf_len ns _ _ (by rw [rowsF_len, h])
theorem rowsOf_vol {ns : List Nat} : (rowsOf ns).length = vol ns := rowsOf_len ns [[]] 1 rfl
theorem rowsOf_add {ns : List Nat} {s : Nat} : rowsOf (ns ++ [s]) = rowsF (rowsOf ns) s := by simp [rowsOf]
theorem Fill.of_rows {ns row : List Nat} (h : row ∈ rowsOf ns) : Fill ns row := rowsOf_mem.mp h
theorem rowsF_add {F : List (List Nat)} {row : List Nat} {s : Nat} : rowsF (F ++ [row]) s = rowsF F s ++ (List.range s).map fun i => row ++ [i] := by simp [rowsF]
theorem all_rows_eq {T : Tbl} [Fc T "_law_all_rows" h_all_rows] {n : Nat} {g : List GI} {ns : List Nat} (hs : Sz ns) (hv : vol ns ≤ 1000) : callN T (n + 1) "_law_all_rows" [.v (eL ns)] g = .ret (.v (.lst ((rowsOf ns).map eL))) [.v (eL ns)] g := by
  refine eq_of (run_in (Fc.at_ : T "_law_all_rows" = some h_all_rows) rfl rfl ?_)
  simp
  refine for_map (fun pre st => ∃ x1 x2 x3 x4, (x1 = SV.own (.lst ((rowsOf pre).map eL)) ∧ pre = [] ∨ x1 = .v (.lst ((rowsOf pre).map eL))) ∧ st = ⟨[Vv (eL ns), some x1, x2, x3, x4, none], g⟩) ?_ ⟨_, none, none, none, .inl ⟨rfl, rfl⟩, by simp [rowsOf, eL]⟩ ?_
  · rintro pre s post st e ⟨x1, x2, x3, x4, hx1, rfl⟩
    have hp : vol (pre ++ [s]) ≤ 1000 := by
      have := vol_pre (pre := pre ++ [s]) (post := post) fun x hx => by
        obtain ⟨i, hi, rfl⟩ := mem_vl (l := ns) (a := x) (by rw [e]; simp [hx])
        exact (hs.at_ i hi).1
      rw [List.append_assoc, List.singleton_append, ← e] at this
      omega
    rw [vol_add, ← rowsOf_vol] at hp
    have s5 : s ≤ 5 := by
      obtain ⟨i, hi, rfl⟩ := mem_vl (l := ns) (a := s) (by rw [e]; simp)
      exact (hs.at_ i hi).2
    have hx2 : x1 = SV.own (.lst ((rowsOf pre).map eL)) ∨ x1 = .v (.lst ((rowsOf pre).map eL)) := by
      rcases hx1 with ⟨h, _⟩ | h
      · exact .inl h
      · exact .inr h
    rcases hx2 with rfl | rfl
    all_goals
      simp
      refine for_map (fun pre2 st => ∃ x4, st = ⟨[Vv (eL ns), Vv (.lst ((rowsOf pre).map eL)), Vv (.int s), Vo ((rowsF pre2 s).map eL), x4, none], g⟩) ?_ ⟨_, by simp [rowsF]; exact rfl⟩ ?_
      · rintro pre2 row post2 st e2 ⟨x4, rfl⟩
        simp [r_0 (n := s) (by omega)]
        have ad : ∀ i : Nat, binO .Add (.v (eL row)) (.v (.tup [.int i])) = some (.v (eL (row ++ [i]))) := fun i => by
          have hr := Fill.of_rows (ns := pre) (by rw [e2]; simp : row ∈ rowsOf pre)
          have := b_addt (a := nL row) (b := [PV.int i]) (by simp [line]; have := hr.1; have := congrArg List.length e; have := hs.hi; simp at *; omega)
          simpa [eL] using this
        refine lc_map (fun i => eL (row ++ [i])) (fun i hi => lcF_ok rfl ?_) ?_
        · simp [ad]
        · have l1 : (rowsF pre2 s).length ≤ 1000 := by
            have : pre2.length ≤ (rowsOf pre).length := by rw [e2]; simp
            have h2 := Nat.mul_le_mul_right s this
            rw [rowsF_len]
            omega
          have hz : s ≤ line := by unfold line; omega
          have bb := b_addl (x := .d (.lst ((rowsF pre2 s).map eL))) (y := .d (.lst ((List.range s).map fun i => eL (row ++ [i])))) rfl rfl (by simp [line]; omega)
          simp [bb, hz, rowsF_add, Function.comp_def]
      · rintro st ⟨x4, rfl⟩
        simp [store, ER.frz, rowsOf_add]
  · rintro st ⟨x1, x2, x3, x4, hx1, rfl⟩
    have hne : ns ≠ [] := by
      intro h
      have := hs.lo
      rw [h] at this
      simp at this
    obtain rfl := hx1.resolve_left fun h => hne h.2
    simp
theorem keeps_eq {T : Tbl} [Fc T "_law_keeps" h_keeps] [Fc T "_law_test" h_test] {n : Nat} {g : List GI} {ns row : List Nat} (hs : Sz ns) {B : List Rule} (hB : BOk ns B) (hl : B.length ≤ 1000) (hr : Fill ns row) : callN T (n + 2) "_law_keeps" [.v (eB B), .v (eL row)] g = .ret (.v (.bl (B.all fun r => holds r row))) [.v (eB B), .v (eL row)] g := by
  refine eq_of (run_in (Fc.at_ : T "_law_keeps" = some h_keeps) rfl rfl ?_)
  simp
  refine lc_filter (fun r => !holds r row) eR (fun r h => lcF_ok rfl ?_) ?_
  · cases q : holds r row <;> simp [test_eq hs (hB r h) hr, q]
  · have hz := List.length_filter_le (fun r => !holds r row) B
    have ne := nil_eq (d := 3) (w := 3000) (x := .d (.lst ((B.filter fun r => !holds r row).map eR))) rfl (fun p hp => by
      obtain ⟨r, hr, rfl⟩ := List.mem_map.mp hp
      exact gd_R hs (hB r (List.mem_filter.mp hr).1)) (by decide) (fun p hp => by
      obtain ⟨r, hr, rfl⟩ := List.mem_map.mp hp
      exact nb_R)
    have hz' : (B.filter fun r => !holds r row).length ≤ line := by unfold line; omega
    simp [hz', ne]
    rw [Bool.eq_iff_iff]
    simp [List.isEmpty_iff, List.filter_eq_nil_iff]
end Q
end
section
set_option maxHeartbeats 4000000
namespace Q
open PySem Q.M
theorem ret_of {o : COut} (h : o.wq (fun r _ _ => r = .v (.bl true)) fun _ _ _ => False) : ∃ as' g', o = .ret (.v (.bl true)) as' g' := by
  cases o with
  | ret r as g =>
    have h : r = .v (.bl true) := h
    subst h
    exact ⟨as, g, rfl⟩
  | exc x as g => exact h.elim
  | bad => exact h.elim
theorem r_3 : rngO (.v (.int 3)) = some ((List.range 3).map fun (i : Nat) => .int i) := r_0 (n := 3) (by omega)
/-- a row with one entry changed -/
theorem Fill.bent {ns row : List Nat} (h : Fill ns row) {f v : Nat} (hf : f < ns.length) (hv : v < vl ns f) : Fill ns (row.take f ++ (v :: row.drop (f + 1))) := by
  have hl := h.1
  refine ⟨by simp; omega, fun k hk => ?_⟩
  unfold vl
  rw [List.getD_eq_getElem?_getD]
  by_cases c : k < f
  · rw [List.getElem?_append_left (by simp; omega), List.getElem?_take_of_lt c, ← List.getD_eq_getElem?_getD]
    exact h.2 k hk
  · rw [List.getElem?_append_right (by simp; omega)]
    have e : (row.take f).length = f := by simp; omega
    rw [e]
    by_cases c2 : k = f
    · subst c2
      simp
      exact hv
    · obtain ⟨j, hj⟩ : ∃ j, k - f = j + 1 := ⟨k - f - 1, by omega⟩
      rw [hj, List.getElem?_cons_succ, List.getElem?_drop, show f + 1 + j = k by omega, ← List.getD_eq_getElem?_getD]
      exact h.2 k hk
def brkF (B : List Rule) (row : List Nat) (k : Nat) : Bool := match B[k]? with | some r => !holds r row | none => false
theorem brk_F {B : List Rule} {row : List Nat} : (List.range B.length).filter (brkF B row) = brk B row := rfl
theorem brkF_at {B : List Rule} {row : List Nat} {k : Nat} {r : Rule} (h : B[k]? = some r) : brkF B row k = !holds r row := by simp [brkF, h]
theorem brk_small {B : List Rule} {row : List Nat} : ∀ a ∈ brk B row, a < B.length := fun a h => List.mem_range.mp (List.mem_filter.mp h).1
theorem brk_le {B : List Rule} {row : List Nat} : (brk B row).length ≤ B.length := by
  have := List.length_filter_le (brkF B row) (List.range B.length)
  rwa [brk_F, List.length_range] at this
theorem brk_mem {B : List Rule} {row : List Nat} {k : Nat} {r : Rule} (h : B[k]? = some r) : k ∈ brk B row ↔ holds r row = false := by
  have hk := (List.getElem?_eq_some_iff.mp h).1
  rw [← brk_F, List.mem_filter, List.mem_range, brkF_at h]
  simp [hk]
theorem repr_N {l : List Nat} (h : ∀ a ∈ l, a < 10 ^ 12) (hl : l.length ≤ 1000) {x : DV} (hx : x.pv = some (.lst (nL l))) : bltO .repr [x] = some (.v (.str (PV.lst (nL l)).toD.shown)) := by
  have := Gd.lst (gd_N h)
  refine Gd.repr this (by decide) ?_ hx
  simp
  omega
theorem ne_B {ns : List Nat} (hs : Sz ns) {B : List Rule} (h : BOk ns B) (hl : B.length ≤ 1000) : cmpO .NotEq (.v (eB B)) (.v (.tup [])) = some (!B.isEmpty) := by
  have g1 := gd_B hs h
  refine c_diff rfl rfl g1 ((Gd.tup (d := 3) (w := 0) (xs := []) (by simp)).mono (Nat.le_refl _) (by simp)) (by decide) nb_B rfl (fun s => by simp [eB]) ?_
  cases B <;> simp [eB]
theorem repr_b {b : Bool} : bltO .repr [.v (.bl b)] = some (.v (.str (PV.bl b).toD.shown)) := Gd.repr (Gd.bl b) (by decide) (by decide) rfl
theorem notin_N {l : List Nat} {k : Nat} (hk : k < 10 ^ 12) (h : ∀ a ∈ l, a < 10 ^ 12) {y : DV} (hy : y.lst = some (nL l)) : cmpO .NotIn (.v (.int k)) y = some (!l.contains k) := by
  refine notin_of (in_lst (d := 0) (w := 41) rfl hy (Gd.nat hk) (gd_N h) (by decide) rfl nb_N ?_)
  simp
theorem app_bent {row : List Nat} {f v : Nat} : PV.tup ((nL row).take f ++ PV.int v :: (nL row).drop (f + 1)) = eL (row.take f ++ (v :: row.drop (f + 1))) := by
  simp [eL, nL, List.map_take, List.map_drop]
theorem r_8 : rngO (.v (.int 8)) = some ((List.range 8).map fun (i : Nat) => .int i) := r_0 (n := 8) (by omega)
theorem brk_keeps {B : List Rule} {row : List Nat} (h : Keeps B row) : brk B row = [] := by
  rw [← brk_F, List.filter_eq_nil_iff]
  intro k hk
  have hk : k < B.length := List.mem_range.mp hk
  have e : B[k]? = some B[k] := by simp [hk]
  rw [brkF_at e, h _ (List.mem_of_getElem? e)]
  decide
theorem mix_keeps {ns : List Nat} {B : List Rule} (hB : BOk ns B) {a b c : List Nat} (la : Fill ns a) (ha : Keeps B a) (hb : Keeps B b) (hc : Keeps B c) : Keeps B (mix a b c) := fun r hr => mix_holds (hB r hr) la.1 (ha r hr) (hb r hr) (hc r hr)
theorem notin_rows {ns row : List Nat} (hs : Sz ns) (hr : Fill ns row) {rows : List (List Nat)} (h : ∀ r ∈ rows, Fill ns r) {y : DV} (hy : y.lst = some (rows.map eL)) : cmpO .NotIn (.v (eL row)) y = some (!rows.contains row) := by
  refine notin_of (in_lst (d := 1) (w := 336) rfl hy (Fill.gd hs hr) (fun q hq => ?_) (by decide) nb_L (fun q hq => ?_) ?_)
  · obtain ⟨a, ha, rfl⟩ := List.mem_map.mp hq
    exact Fill.gd hs (h a ha)
  · obtain ⟨a, ha, rfl⟩ := List.mem_map.mp hq
    exact nb_L
  · simp
theorem repr_L {l : List Nat} (h : ∀ a ∈ l, a < 10 ^ 12) (hl : l.length ≤ 1000) : bltO .repr [.v (eL l)] = some (.v (.str (eL l).toD.shown)) := Gd.repr (gd_L h) (by decide) (by omega) rfl
theorem law_main {C : Ctx} {ss : List Int} {A E R : Int} {k : Nat} {D : SL} {es : List (Option SV)} {g : List GI} {p : Post} (P : ST → Prop) (hk : k ≤ 1000) (hre : C.ro 1 = false) (hE : powOk 10 E = true) (hA : mulOk A ((10 : Int) ^ E.toNat) = true)
    (step : ∀ c st p, P st → (∀ st, P st → p.nx st) → (∀ st, P st → p.ct st) → (exs C D (st.put 1 (Vv (.int c)))).wq p) (h0 : P ⟨Vv (.scr ss) :: es, g⟩) (hq : ∀ st, P st → p.rt (.v (.bl true)) st) :
    (exs C (.cons (.for_ (.v 1) (.seq (.bin .Add (.lst (.cons (.bin .Add (.bin .Mult (.c (.int A)) (.bin .Pow (.c (.int 10)) (.c (.int E)))) (.c (.int R))) .nil)) (.sl (.var 0) .no (.yes (.c (.int (k : Nat))))))) D) (.cons (.ret (.c (.bl true))) .nil)) ⟨Vv (.scr ss) :: es, g⟩).wq p := by
  have c5 : cut (ss.map PV.int) none (some (k : Int)) = (ss.take k).map PV.int := by
    rw [List.map_take]
    exact cut_lo (j := k)
  have ad : ∀ (c : Int), binO .Add (.d (.lst [.int c])) (.d (.lst ((ss.take k).map PV.int))) = some (.own (.lst ((c :: ss.take k).map PV.int))) := fun c => b_addl (a := [PV.int c]) (b := (ss.take k).map PV.int) rfl rfl (by simp [line]; omega)
  have hP := b_pow hE
  have hM := b_mul hA
  generalize (10 : Int) ^ E.toNat = N at hP hM
  simp only [List.map_cons, List.map_take] at ad c5
  simp [hP, hM, c5, ad]
  have el : ∀ c, PV.int c :: (List.take k (ss.map PV.int)) = (c :: ss.take k).map PV.int := fun c => by simp [List.map_take]
  rw [el]
  refine for_map (l := (A * N + R) :: ss.take k) (enc := PV.int) (fun _ st => P st) ?_ h0 ?_
  · rintro pre c post st e h
    have h1 : stTg C (.v 1) (.int c) st = some (st.put 1 (Vv (.int c))) := by simp [stTg, hre]
    simp [FF, h1]
    exact step c st _ h (fun _ h => h) fun _ h => h
  · rintro st h
    simp
    exact hq _ h
end Q
end
section
namespace Q.M
/-! ### what comes, in its sequence -/
abbrev CStep := Option Nat × Nat × Nat
def has (c : List CStep) (l : Lit) : Bool := (c.map (·.2)).contains l
theorem has_iff {c : List CStep} {l : Lit} : has c l = true ↔ ∃ o, (o, l) ∈ c := by
  unfold has
  rw [List.contains_iff_mem, List.mem_map]
  constructor
  · rintro ⟨⟨o, l'⟩, h, rfl⟩
    exact ⟨o, h⟩
  · rintro ⟨o, h⟩
    exact ⟨_, h, rfl⟩
def add1 (c : List CStep) (o : Option Nat) (l : Lit) : List CStep := if has c l then c else c ++ [(o, l)]
def start (ls : List Lit) : List CStep := ls.foldl (fun c l => add1 c none l) []
def addK (B : List Rule) (l : Lit) (c : List CStep) (k : Nat) : List CStep := match (B[k]?).bind (forced · l) with
  | some f => add1 c (some k) f
  | none => c
def inner (B : List Rule) (l : Lit) (c : List CStep) : List CStep := (List.range B.length).foldl (addK B l) c
def closeN (B : List Rule) : Nat → Nat → List CStep → List CStep
  | 0, _, c => c
  | n + 1, i, c => match c[i]? with
    | none => c
    | some s => closeN B n (i + 1) (inner B s.2 c)
def closure (B : List Rule) (ls : List Lit) : List CStep := closeN B 100 0 (start ls)
/-- a step that is as it should be -/
def Just (B : List Rule) (ls : List Lit) (c : List CStep) (i : Nat) : Prop := ∀ s, c[i]? = some s → (s.1 = none ∧ s.2 ∈ ls) ∨ ∃ k r j t, s.1 = some k ∧ B[k]? = some r ∧ j < i ∧ c[j]? = some t ∧ forced r t.2 = some s.2
structure Good (ns : List Nat) (B : List Rule) (ls : List Lit) (c : List CStep) : Prop where
  nd : (c.map (·.2)).Nodup
  ok : ∀ s ∈ c, LOk ns s.2
  just : ∀ i, Just B ls c i
theorem nodup_sub {l k : List Nat} (h1 : l.Nodup) (h2 : k.Nodup) (h : ∀ x ∈ l, x ∈ k) : l.length ≤ k.length := by
  have p : l.Perm (k.filter fun x => decide (x ∈ l)) := (List.perm_ext_iff_of_nodup h1 (h2.filter _)).mpr fun x => by
    rw [List.mem_filter, decide_eq_true_eq]
    exact ⟨fun m => ⟨h x m, m⟩, fun m => m.2⟩
  rw [p.length_eq]
  exact List.length_filter_le _ _
theorem lits_few {ns : List Nat} (h8 : ns.length ≤ 8) (h5 : ∀ f, vl ns f ≤ 5) {l : List Lit} (nd : l.Nodup) (ok : ∀ x ∈ l, LOk ns x) : l.length ≤ 40 := by
  have h : (l.map fun x => 5 * x.1 + x.2).Nodup := by
    rw [List.nodup_iff_pairwise_ne, List.pairwise_map]
    refine nd.imp_of_mem fun {a b} ha hb n e => n ?_
    have h1 := ok a ha
    have h2 := ok b hb
    have := h5 a.1
    have := h5 b.1
    unfold LOk at h1 h2
    obtain ⟨a1, a2⟩ := a
    obtain ⟨b1, b2⟩ := b
    simp at *
    omega
  have sub : ∀ x ∈ l.map (fun x => 5 * x.1 + x.2), x ∈ List.range 40 := fun x hx => by
    obtain ⟨a, ha, rfl⟩ := List.mem_map.mp hx
    have h1 := ok a ha
    have h2 := h1.lt
    have := h5 a.1
    unfold LOk at h1
    rw [List.mem_range]
    omega
  have := nodup_sub h List.nodup_range sub
  simpa using this
theorem Good.few {ns : List Nat} {B : List Rule} {ls : List Lit} {c : List CStep} (h8 : ns.length ≤ 8) (h5 : ∀ f, vl ns f ≤ 5) (g : Good ns B ls c) : c.length ≤ 40 := by
  have := lits_few h8 h5 g.nd fun x hx => by
    obtain ⟨s, hs, rfl⟩ := List.mem_map.mp hx
    exact g.ok s hs
  simpa using this
theorem add1_pre (c : List CStep) (o : Option Nat) (l : Lit) : ∃ d, add1 c o l = c ++ d := by
  unfold add1
  split
  · exact ⟨[], by simp⟩
  · exact ⟨_, rfl⟩
theorem addK_pre (B : List Rule) (l : Lit) (c : List CStep) (k : Nat) : ∃ d, addK B l c k = c ++ d := by
  unfold addK
  split
  · exact add1_pre ..
  · exact ⟨[], by simp⟩
theorem fold_pre {α : Type} {F : List CStep → α → List CStep} (h : ∀ c a, ∃ d, F c a = c ++ d) : ∀ (l : List α) (c : List CStep), ∃ d, l.foldl F c = c ++ d
  | [], c => ⟨[], by simp⟩
  | a :: l, c => by
    obtain ⟨d, e⟩ := h c a
    obtain ⟨d', e'⟩ := fold_pre h l (F c a)
    exact ⟨d ++ d', by rw [List.foldl_cons, e', e, List.append_assoc]⟩
theorem inner_pre (B : List Rule) (l : Lit) (c : List CStep) : ∃ d, inner B l c = c ++ d := fold_pre (addK_pre B l) _ c
theorem closeN_pre (B : List Rule) : ∀ (n i : Nat) (c : List CStep), ∃ d, closeN B n i c = c ++ d
  | 0, _, c => ⟨[], by simp [closeN]⟩
  | n + 1, i, c => by
    rw [closeN]
    split
    · exact ⟨[], by simp⟩
    · rename_i s _
      obtain ⟨d, e⟩ := inner_pre B s.2 c
      obtain ⟨d', e'⟩ := closeN_pre B n (i + 1) (inner B s.2 c)
      exact ⟨d ++ d', by rw [e', e, List.append_assoc]⟩
theorem Good.add {ns : List Nat} {B : List Rule} {ls : List Lit} {c : List CStep} (g : Good ns B ls c) {o : Option Nat} {l : Lit} (hl : LOk ns l) (hj : (o = none ∧ l ∈ ls) ∨ ∃ k r j t, o = some k ∧ B[k]? = some r ∧ j < c.length ∧ c[j]? = some t ∧ forced r t.2 = some l) : Good ns B ls (add1 c o l) := by
  unfold add1
  split
  · exact g
  · rename_i hn
    refine ⟨?_, fun s hs => ?_, fun i s e => ?_⟩
    · rw [List.map_append, List.nodup_append]
      refine ⟨g.nd, by simp, fun a ha b hb e => ?_⟩
      simp at hb
      subst hb
      subst e
      exact hn (List.contains_iff_mem.mpr ha)
    · rcases List.mem_append.mp hs with hs | hs
      · exact g.ok s hs
      · simp at hs
        subst hs
        exact hl
    · have up : ∀ {j : Nat} {t : CStep}, c[j]? = some t → (c ++ [(o, l)])[j]? = some t := fun {j t} e => by
        rw [List.getElem?_append_left (List.getElem?_eq_some_iff.mp e).1]
        exact e
      by_cases hi : i < c.length
      · rw [List.getElem?_append_left hi] at e
        rcases g.just i s e with h | ⟨k, r, j, t, h1, h2, h3, h4, h5⟩
        · exact .inl h
        · exact .inr ⟨k, r, j, t, h1, h2, h3, up h4, h5⟩
      · have : i = c.length := by
          have := (List.getElem?_eq_some_iff.mp e).1
          simp at this
          omega
        subst this
        simp at e
        subst e
        rcases hj with h | ⟨k, r, j, t, h1, h2, h3, h4, h5⟩
        · exact .inl h
        · exact .inr ⟨k, r, j, t, h1, h2, h3, up h4, h5⟩
theorem Good.addK {ns : List Nat} {B : List Rule} (hB : BOk ns B) {ls : List Lit} {c : List CStep} (g : Good ns B ls c) {l : Lit} {j : Nat} {o : Option Nat} (hj : c[j]? = some (o, l)) (k : Nat) : Good ns B ls (addK B l c k) := by
  unfold M.addK
  split
  · rename_i f e
    obtain ⟨r, e1, e2⟩ := Option.bind_eq_some_iff.mp e
    exact g.add (forced_ok (hB r (List.mem_of_getElem? e1)) e2) (.inr ⟨k, r, j, _, rfl, e1, (List.getElem?_eq_some_iff.mp hj).1, hj, e2⟩)
  · exact g
theorem Good.fold {ns : List Nat} {B : List Rule} (hB : BOk ns B) {ls : List Lit} {l : Lit} {j : Nat} {o : Option Nat} : ∀ (ks : List Nat) {c : List CStep}, Good ns B ls c → c[j]? = some (o, l) → Good ns B ls (ks.foldl (M.addK B l) c) ∧ (ks.foldl (M.addK B l) c)[j]? = some (o, l)
  | [], c, g, h => ⟨g, h⟩
  | k :: ks, c, g, h => by
    rw [List.foldl_cons]
    refine Good.fold hB ks (g.addK hB h k) ?_
    obtain ⟨d, e⟩ := addK_pre B l c k
    rw [e, List.getElem?_append_left (List.getElem?_eq_some_iff.mp h).1]
    exact h
theorem Good.start {ns : List Nat} (B : List Rule) {ls : List Lit} (h : ∀ l ∈ ls, LOk ns l) : Good ns B ls (start ls) := by
  have key : ∀ (k : List Lit) (c : List CStep), (∀ l ∈ k, l ∈ ls) → Good ns B ls c → Good ns B ls (k.foldl (fun c l => add1 c none l) c) := by
    intro k
    induction k with
    | nil => exact fun c _ g => g
    | cons a k ih =>
      intro c hk g
      rw [List.foldl_cons]
      have ha := hk a (List.mem_cons_self ..)
      exact ih _ (fun l hl => hk l (List.mem_cons_of_mem _ hl)) (g.add (h a ha) (.inl ⟨rfl, ha⟩))
  exact key ls [] (fun _ h => h) ⟨List.Pairwise.nil, fun s hs => (by cases hs), fun i s e => (by simp at e)⟩
/-- the first i values have been followed -/
def Done (B : List Rule) (c : List CStep) (i : Nat) : Prop := ∀ j s r f, j < i → c[j]? = some s → r ∈ B → forced r s.2 = some f → has c f = true
theorem has_app {c d : List CStep} {l : Lit} (h : has c l = true) : has (c ++ d) l = true := by
  obtain ⟨o, m⟩ := has_iff.mp h
  exact has_iff.mpr ⟨o, List.mem_append.mpr (.inl m)⟩
theorem inner_has {B : List Rule} {l : Lit} {c : List CStep} {r : Rule} {f : Lit} (hr : r ∈ B) (hf : forced r l = some f) : has (inner B l c) f = true := by
  obtain ⟨k, hk, e⟩ := List.getElem_of_mem hr
  have key : ∀ (ks : List Nat) (c : List CStep), k ∈ ks → has (ks.foldl (M.addK B l) c) f = true := by
    intro ks
    induction ks with
    | nil => intro c h; cases h
    | cons a ks ih =>
      intro c h
      rw [List.foldl_cons]
      by_cases q : k ∈ ks
      · exact ih _ q
      · have ha : a = k := by
          rcases List.mem_cons.mp h with e | m
          · exact e.symm
          · exact absurd m q
        subst ha
        obtain ⟨d, e'⟩ := fold_pre (addK_pre B l) ks (M.addK B l c a)
        rw [e']
        refine has_app ?_
        unfold M.addK
        rw [List.getElem?_eq_getElem hk, e]
        simp only [Option.bind_some, hf]
        unfold add1
        split
        · assumption
        · exact has_iff.mpr ⟨_, List.mem_append.mpr (.inr (List.mem_singleton.mpr rfl))⟩
  exact key _ c (List.mem_range.mpr hk)
theorem Done.step {B : List Rule} {c : List CStep} {i : Nat} {s : CStep} (h : Done B c i) (hs : c[i]? = some s) : Done B (inner B s.2 c) (i + 1) := by
  obtain ⟨d, e⟩ := inner_pre B s.2 c
  have hi := (List.getElem?_eq_some_iff.mp hs).1
  intro j t r f hj ht hr hf
  have ht' : c[j]? = some t := by
    rw [e, List.getElem?_append_left (by omega)] at ht
    exact ht
  by_cases q : j = i
  · subst q
    rw [hs] at ht'
    cases ht'
    exact inner_has hr hf
  · rw [e]
    exact has_app (h j t r f (by omega) ht' hr hf)
theorem closeN_ok {ns : List Nat} (h8 : ns.length ≤ 8) (h5 : ∀ f, vl ns f ≤ 5) {B : List Rule} (hB : BOk ns B) {ls : List Lit} : ∀ (n i : Nat) (c : List CStep), Good ns B ls c → Done B c i → i ≤ c.length → 41 ≤ n + i → Good ns B ls (closeN B n i c) ∧ Done B (closeN B n i c) (closeN B n i c).length
  | 0, i, c, g, d, hi, hn => by
    have := g.few h8 h5
    rw [closeN]
    omega
  | n + 1, i, c, g, d, hi, hn => by
    rw [closeN]
    split
    · rename_i e
      have : c.length ≤ i := by simpa using e
      have : i = c.length := by omega
      subst this
      exact ⟨g, d⟩
    · rename_i s e
      have hlt := (List.getElem?_eq_some_iff.mp e).1
      obtain ⟨d', e'⟩ := inner_pre B s.2 c
      exact closeN_ok h8 h5 hB n (i + 1) _ (Good.fold hB _ g (o := s.1) (l := s.2) e).1 (d.step e) (by rw [e']; simp; omega) (by omega)
theorem closure_ok {ns : List Nat} (h8 : ns.length ≤ 8) (h5 : ∀ f, vl ns f ≤ 5) {B : List Rule} (hB : BOk ns B) {ls : List Lit} (hl : ∀ l ∈ ls, LOk ns l) : Good ns B ls (closure B ls) ∧ Done B (closure B ls) (closure B ls).length :=
  closeN_ok h8 h5 hB 100 0 _ (Good.start B hl) (fun j s r f h => by omega) (Nat.zero_le _) (by omega)
theorem start_has {ls : List Lit} {l : Lit} (h : l ∈ ls) : has (start ls) l = true := by
  have key : ∀ (k : List Lit) (c : List CStep), l ∈ k → has (k.foldl (fun c l => add1 c none l) c) l = true := by
    intro k
    induction k with
    | nil => intro c h; cases h
    | cons a k ih =>
      intro c h
      rw [List.foldl_cons]
      by_cases q : l ∈ k
      · exact ih _ q
      · have ha : a = l := by
          rcases List.mem_cons.mp h with e | m
          · exact e.symm
          · exact absurd m q
        subst ha
        obtain ⟨d, e'⟩ := fold_pre (fun c l => add1_pre c none l) k (add1 c none a)
        rw [e']
        refine has_app ?_
        unfold add1
        split
        · assumption
        · exact has_iff.mpr ⟨_, List.mem_append.mpr (.inr (List.mem_singleton.mpr rfl))⟩
  exact key ls [] h
theorem Good.reach {ns : List Nat} {B : List Rule} {ls : List Lit} {c : List CStep} (g : Good ns B ls c) : ∀ (i : Nat) (s : CStep), c[i]? = some s → Reach B ls s.2 := by
  intro i
  induction i using Nat.strongRecOn with
  | _ i ih =>
    intro s e
    rcases g.just i s e with ⟨_, m⟩ | ⟨k, r, j, t, _, h2, h3, h4, h5⟩
    · exact .base m
    · exact .step (List.mem_of_getElem? h2) (ih j h3 t h4) h5
/-- what comes is what can be reached -/
theorem closure_iff {ns : List Nat} (h8 : ns.length ≤ 8) (h5 : ∀ f, vl ns f ≤ 5) {B : List Rule} (hB : BOk ns B) {ls : List Lit} (hl : ∀ l ∈ ls, LOk ns l) {l : Lit} : has (closure B ls) l = true ↔ Reach B ls l := by
  obtain ⟨g, d⟩ := closure_ok h8 h5 hB hl
  constructor
  · intro h
    obtain ⟨o, m⟩ := has_iff.mp h
    obtain ⟨i, hi, e⟩ := List.getElem_of_mem m
    exact g.reach i _ (by rw [List.getElem?_eq_getElem hi, e])
  · intro h
    induction h with
    | base m =>
      obtain ⟨d', e⟩ := closeN_pre B 100 0 (start ls)
      unfold closure
      rw [e]
      exact has_app (start_has m)
    | step hr _ hf ih =>
      obtain ⟨o, m⟩ := has_iff.mp ih
      obtain ⟨i, hi, e⟩ := List.getElem_of_mem m
      exact d i _ _ _ hi (by rw [List.getElem?_eq_getElem hi, e]) hr hf
/-! ### clashes, decided -/
def twice (c : List CStep) : Bool := !(decide ((c.map (·.2.1)).Nodup))
def refAt (B : List Rule) (l : Lit) (k : Nat) : Option Nat := match B[k]? with
  | some r => if refuses r l = true then some k else none
  | none => none
def firstRef (B : List Rule) (c : List CStep) : Option Nat := c.findSome? fun s => (List.range B.length).findSome? (refAt B s.2)
def clashB (B : List Rule) (c : List CStep) : Bool := twice c || (firstRef B c).isSome
theorem firstRef_some {B : List Rule} {c : List CStep} {k : Nat} (h : firstRef B c = some k) : ∃ s r, s ∈ c ∧ B[k]? = some r ∧ refuses r s.2 = true := by
  obtain ⟨s, hs, e⟩ := List.exists_of_findSome?_eq_some h
  obtain ⟨k', hk, e⟩ := List.exists_of_findSome?_eq_some e
  unfold refAt at e
  split at e
  · rename_i r q
    split at e
    · cases e
      exact ⟨s, r, hs, q, by assumption⟩
    · cases e
  · cases e
theorem firstRef_none {B : List Rule} {c : List CStep} (h : firstRef B c = none) {s : CStep} (hs : s ∈ c) {r : Rule} (hr : r ∈ B) : refuses r s.2 = false := by
  have := List.findSome?_eq_none_iff.mp h s hs
  rw [List.findSome?_eq_none_iff] at this
  obtain ⟨k, hk, e⟩ := List.getElem_of_mem hr
  have := this k (List.mem_range.mpr hk)
  unfold refAt at this
  rw [List.getElem?_eq_getElem hk, e] at this
  dsimp only at this
  split at this
  · cases this
  · simpa using ‹¬ refuses r s.2 = true›
theorem twice_iff {ns : List Nat} {B : List Rule} {ls : List Lit} {c : List CStep} (g : Good ns B ls c) : twice c = true ↔ ∃ f v w, has c (f, v) = true ∧ has c (f, w) = true ∧ v ≠ w := by
  unfold twice
  rw [Bool.not_eq_true', decide_eq_false_iff_not]
  constructor
  · intro h
    rw [List.nodup_iff_pairwise_ne, List.pairwise_map] at h
    rw [List.pairwise_iff_getElem] at h
    simp only [Classical.not_forall] at h
    obtain ⟨i, j, hi, hj, hij, e⟩ := h
    have e := Classical.not_not.mp e
    have n := List.pairwise_iff_getElem.mp g.nd i j (by simpa using hi) (by simpa using hj) hij
    simp only [List.getElem_map] at n
    generalize hx : c[i] = x at e n
    generalize hy : c[j] = y at e n
    obtain ⟨o, f, v⟩ := x
    obtain ⟨o', f', w⟩ := y
    simp at e
    subst e
    refine ⟨f, v, w, has_iff.mpr ⟨o, by rw [← hx]; exact List.getElem_mem _⟩, has_iff.mpr ⟨o', by rw [← hy]; exact List.getElem_mem _⟩, fun z => n (by rw [z])⟩
  · rintro ⟨f, v, w, h1, h2, ne⟩ nd
    obtain ⟨o, m1⟩ := has_iff.mp h1
    obtain ⟨o', m2⟩ := has_iff.mp h2
    obtain ⟨i, hi, e1⟩ := List.getElem_of_mem m1
    obtain ⟨j, hj, e2⟩ := List.getElem_of_mem m2
    have key : ∀ a b (ha : a < c.length) (hb : b < c.length), c[a].2.1 = c[b].2.1 → a < b → False := fun a b ha hb e hab => by
      have := List.pairwise_iff_getElem.mp nd a b (by simpa using ha) (by simpa using hb) hab
      simp only [List.getElem_map] at this
      exact this e
    rcases Nat.lt_trichotomy i j with q | q | q
    · exact key i j hi hj (by rw [e1, e2]) q
    · subst q
      rw [e1] at e2
      cases e2
      exact ne rfl
    · exact key j i hj hi (by rw [e1, e2]) q
theorem clashB_iff {ns : List Nat} (h8 : ns.length ≤ 8) (h5 : ∀ f, vl ns f ≤ 5) {B : List Rule} (hB : BOk ns B) {ls : List Lit} (hl : ∀ l ∈ ls, LOk ns l) : clashB B (closure B ls) = true ↔ Clash B ls := by
  obtain ⟨g, _⟩ := closure_ok h8 h5 hB hl
  have re := fun l => closure_iff h8 h5 hB hl (l := l)
  unfold clashB
  rw [Bool.or_eq_true, twice_iff g]
  constructor
  · rintro (⟨f, v, w, h1, h2, ne⟩ | h)
    · exact .inr ⟨f, v, w, (re _).mp h1, (re _).mp h2, ne⟩
    · obtain ⟨k, e⟩ := Option.isSome_iff_exists.mp h
      obtain ⟨s, r, m, q, z⟩ := firstRef_some e
      exact .inl ⟨s.2, r, (re _).mp (has_iff.mpr ⟨s.1, m⟩), List.mem_of_getElem? q, z⟩
  · rintro (⟨l, r, h, hr, z⟩ | ⟨f, v, w, h1, h2, ne⟩)
    · right
      cases e : firstRef B (closure B ls) with
      | some k => rfl
      | none =>
        obtain ⟨o, m⟩ := has_iff.mp ((re l).mpr h)
        rw [firstRef_none e m hr] at z
        cases z
    · exact .inl ⟨f, v, w, (re _).mpr h1, (re _).mpr h2, ne⟩
end Q.M
end
section
namespace Q
def p_forced_by : Fn := ⟨5, 3, [], .cons (.ife (.e (.cmp .Eq (.idx (.var 0) (.c (.int 0))) (.c (.str "match")))) (.cons (.for_ (.t [3, 4]) (.seq (.idx (.var 0) (.c (.int 3)))) (.cons (.ife (.and (.e (.cmp .Eq (.var 1) (.idx (.var 0) (.c (.int 1))))) (.e (.cmp .Eq (.var 2) (.var 3)))) (.cons (.ret (.tup (.cons (.idx (.var 0) (.c (.int 2))) (.cons (.var 4) .nil)))) .nil) .nil) (.cons (.ife (.and (.e (.cmp .Eq (.var 1) (.idx (.var 0) (.c (.int 2))))) (.e (.cmp .Eq (.var 2) (.var 4)))) (.cons (.ret (.tup (.cons (.idx (.var 0) (.c (.int 1))) (.cons (.var 3) .nil)))) .nil) .nil) .nil))) .nil) .nil) (.cons (.ife (.e (.cmp .Eq (.idx (.var 0) (.c (.int 0))) (.c (.str "either")))) (.cons (.ife (.and (.e (.cmp .Eq (.var 1) (.idx (.var 0) (.c (.int 1))))) (.e (.cmp .NotEq (.var 2) (.idx (.var 0) (.c (.int 2)))))) (.cons (.ret (.tup (.cons (.idx (.var 0) (.c (.int 3))) (.cons (.idx (.var 0) (.c (.int 4))) .nil)))) .nil) .nil) (.cons (.ife (.and (.e (.cmp .Eq (.var 1) (.idx (.var 0) (.c (.int 3))))) (.e (.cmp .NotEq (.var 2) (.idx (.var 0) (.c (.int 4)))))) (.cons (.ret (.tup (.cons (.idx (.var 0) (.c (.int 1))) (.cons (.idx (.var 0) (.c (.int 2))) .nil)))) .nil) .nil) .nil)) .nil) (.cons (.ret (.c .non)) .nil))⟩
def p_refuses : Fn := ⟨3, 3, [], .cons (.ife (.e (.cmp .Eq (.idx (.var 0) (.c (.int 0))) (.c (.str "among")))) (.cons (.ret (.and (.cmp .Eq (.var 1) (.idx (.var 0) (.c (.int 1)))) (.cmp .NotIn (.var 2) (.idx (.var 0) (.c (.int 2)))))) .nil) .nil) (.cons (.ife (.e (.cmp .Eq (.idx (.var 0) (.c (.int 0))) (.c (.str "match")))) (.cons (.ret (.and (.cmp .In (.var 1) (.tup (.cons (.idx (.var 0) (.c (.int 1))) (.cons (.idx (.var 0) (.c (.int 2))) .nil)))) (.cmp .Is (.call "forced_by" (.cons (.var 0) (.cons (.var 1) (.cons (.var 2) .nil)))) (.c .non)))) .nil) .nil) (.cons (.ret (.c (.bl false))) .nil))⟩
def p_closure : Fn := ⟨9, 2, [], .cons (.asg (.v 2) (.lst .nil)) (.cons (.asg (.v 3) (.dnew true)) (.cons (.for_ (.t [4, 5]) (.seq (.var 1)) (.cons (.ife (.e (.cmp .NotIn (.tup (.cons (.var 4) (.cons (.var 5) .nil))) (.var 3))) (.cons (.sub 3 (.tup (.cons (.var 4) (.cons (.var 5) .nil))) (.c (.bl true))) (.cons (.ex (.mut .append 2 (.cons (.tup (.cons (.c .non) (.cons (.var 4) (.cons (.var 5) .nil)))) .nil))) .nil)) .nil) .nil)) (.cons (.asg (.v 6) (.c (.int 0))) (.cons (.whl (.e (.cmp .Lt (.var 6) (.blt .len (.cons (.var 2) .nil)))) (.cons (.for_ (.v 7) (.rng1 (.blt .len (.cons (.var 0) .nil))) (.cons (.asg (.v 8) (.call "forced_by" (.cons (.idx (.var 0) (.var 7)) (.cons (.idx (.idx (.var 2) (.var 6)) (.c (.int 1))) (.cons (.idx (.idx (.var 2) (.var 6)) (.c (.int 2))) .nil))))) (.cons (.ife (.and (.e (.cmp .IsNot (.var 8) (.c .non))) (.e (.cmp .NotIn (.var 8) (.var 3)))) (.cons (.sub 3 (.var 8) (.c (.bl true))) (.cons (.ex (.mut .append 2 (.cons (.tup (.cons (.var 7) (.cons (.idx (.var 8) (.c (.int 0))) (.cons (.idx (.var 8) (.c (.int 1))) .nil)))) .nil))) .nil)) .nil) .nil))) (.cons (.aug 6 .Add (.c (.int 1))) .nil))) (.cons (.ret (.var 2)) .nil)))))⟩
def p_first_refusal : Fn := ⟨4, 2, [], .cons (.for_ (.v 2) (.seq (.var 1)) (.cons (.for_ (.v 3) (.rng1 (.blt .len (.cons (.var 0) .nil))) (.cons (.ife (.e (.call "refuses" (.cons (.idx (.var 0) (.var 3)) (.cons (.idx (.var 2) (.c (.int 1))) (.cons (.idx (.var 2) (.c (.int 2))) .nil))))) (.cons (.ret (.var 3)) .nil) .nil) .nil)) .nil)) (.cons (.ret (.c .non)) .nil)⟩
def p_comes_twice : Fn := ⟨2, 1, [], .cons (.ret (.cmp .NotEq (.blt .lenSet (.cons (.lc [1] (.v 1) (.seq (.var 0)) .tt (.idx (.var 1) (.c (.int 1)))) .nil)) (.blt .len (.cons (.var 0) .nil)))) .nil⟩
def p_clashes : Fn := ⟨2, 2, [], .cons (.ret (.or (.call "comes_twice" (.cons (.var 1) .nil)) (.cmp .IsNot (.call "first_refusal" (.cons (.var 0) (.cons (.var 1) .nil))) (.c .non)))) .nil⟩
def p_part_of : Fn := ⟨5, 2, [], .cons (.asg (.v 2) (.dc [3] (.v 3) (.seq (.var 1)) (.idx (.var 3) (.c (.int 1))) (.idx (.var 3) (.c (.int 2))))) (.cons (.ret (.blt .tuple (.cons (.lc [4] (.v 4) (.rng1 (.blt .len (.cons (.var 0) .nil))) .tt (.meth .get1 (.var 2) (.cons (.var 4) .nil))) .nil))) .nil)⟩
def p_followed : Fn := ⟨5, 3, [], .cons (.ex (.call "need_sheet" (.cons (.var 0) .nil))) (.cons (.ex (.call "need_book" (.cons (.var 0) (.cons (.var 1) .nil)))) (.cons (.ex (.call "need_part" (.cons (.var 0) (.cons (.var 2) .nil)))) (.cons (.asg (.v 3) (.call "closure" (.cons (.var 1) (.cons (.lc [4] (.v 4) (.rng1 (.blt .len (.cons (.var 2) .nil))) (.e (.cmp .IsNot (.idx (.var 2) (.var 4)) (.c .non))) (.tup (.cons (.var 4) (.cons (.idx (.var 2) (.var 4)) .nil)))) .nil)))) (.cons (.ife (.e (.call "clashes" (.cons (.var 1) (.cons (.var 3) .nil)))) (.cons (.ret (.c .non)) .nil) .nil) (.cons (.ret (.call "part_of" (.cons (.var 0) (.cons (.var 3) .nil)))) .nil)))))⟩
def p_clash : Fn := ⟨5, 4, [], .cons (.ex (.call "need_sheet" (.cons (.var 0) .nil))) (.cons (.ex (.call "need_book" (.cons (.var 0) (.cons (.var 1) .nil)))) (.cons (.ex (.call "need_field" (.cons (.var 0) (.cons (.var 2) .nil)))) (.cons (.ex (.call "need_entry" (.cons (.var 0) (.cons (.var 2) (.cons (.var 3) .nil))))) (.cons (.asg (.v 4) (.call "closure" (.cons (.var 1) (.cons (.lst (.cons (.tup (.cons (.var 2) (.cons (.var 3) .nil))) .nil)) .nil)))) (.cons (.ife (.not (.e (.call "clashes" (.cons (.var 1) (.cons (.var 4) .nil))))) (.cons (.ret (.c .non)) .nil) .nil) (.cons (.ret (.tup (.cons (.blt .tuple (.cons (.sl (.var 4) (.yes (.c (.int 1))) .no) .nil)) (.cons (.call "first_refusal" (.cons (.var 1) (.cons (.var 4) .nil))) .nil)))) .nil))))))⟩
end Q
end
section
set_option maxHeartbeats 4000000
namespace Q
open PySem Q.M
/-- a loop that hands back what the first item gives -/
theorem for_find {α β : Type} {l : List α} {enc : α → PV} {F : PV → ST → SO} {p : Post} {st : ST} (φ : α → Option β) (I : ST → Prop) (step : ∀ a ∈ l, ∀ st, I st → (∀ x, φ a = some x → l.findSome? φ = some x) → (F (enc a) st).wq { p with nx := fun st' => φ a = none ∧ I st', ct := fun st' => φ a = none ∧ I st', bk := p.nx }) (h0 : I st) (hq : ∀ st, l.findSome? φ = none → I st → p.nx st) : (forO F (l.map enc) st).wq p := by
  refine for_map (fun pre st => (∀ a ∈ pre, φ a = none) ∧ I st) ?_ ⟨fun _ h => (by cases h), h0⟩ fun st ⟨h, i⟩ => hq st (List.findSome?_eq_none_iff.mpr h) i
  rintro pre a post st rfl ⟨hp, i⟩
  refine so_mono (step a (by simp) st i fun x hx => ?_) (fun st' h => ⟨fun b hb => ?_, h.2⟩) (fun _ _ h => h) (fun _ h => h) (fun st' h => ⟨fun b hb => ?_, h.2⟩) fun _ _ h => h
  · rw [List.findSome?_append, List.findSome?_eq_none_iff.mpr hp]
    simp [hx]
  · rcases List.mem_append.mp hb with m | m
    · exact hp b m
    · simp at m
      rw [m]
      exact h.1
  · rcases List.mem_append.mp hb with m | m
    · exact hp b m
    · simp at m
      rw [m]
      exact h.1
def eOP : Option Lit → PV
  | none => .non
  | some l => eP l
def eS (s : CStep) : PV := .tup [eO s.1, .int s.2.1, .int s.2.2]
@[simp] theorem eOP_n : eOP none = .non := rfl
@[simp] theorem eOP_s {l : Lit} : eOP (some l) = eP l := rfl
@[simp] theorem isn_OP {l : Option Lit} : isNone (.v (eOP l)) = l.isNone := by cases l <;> rfl
theorem forced_by_eq {T : Tbl} [Fc T "forced_by" p_forced_by] {n : Nat} {g : List GI} {ns : List Nat} {r : Rule} (h : ROk ns r) {f v : Nat} : callN T (n + 1) "forced_by" [.v (eR r), .v (.int f), .v (.int v)] g = .ret (.v (eOP (forced r (f, v)))) [.v (eR r), .v (.int f), .v (.int v)] g := by
  refine eq_of (run_in (Fc.at_ : T "forced_by" = some p_forced_by) rfl rfl ?_)
  cases r with
  | among a es => simp [eR, forced]
  | eith a b c d =>
    have hac := h.1
    by_cases h1 : f = a
    · subst h1
      by_cases h2 : v = b <;> simp [eR, forced, h2, show f ≠ c by omega]
    · by_cases h3 : f = c
      · subst h3
        by_cases h2 : v = d <;> simp [eR, forced, h1, h2]
      · simp [eR, forced, h1, h3]
  | mtch a b ps =>
    have hab := h.1
    simp [eR]
    refine for_find (pairHit a b (f, v)) (fun st => ∃ x y, st = ⟨[Vv (eR (.mtch a b ps)), Vv (.int f), Vv (.int v), x, y], g⟩) ?_ ⟨_, _, rfl⟩ ?_
    · rintro p hp st ⟨x, y, rfl⟩ hx
      by_cases h1 : f = a
      · subst h1
        by_cases h2 : v = p.1
        · have := hx (b, p.2) (by simp [pairHit, h2])
          simp [h2, eR, forced, this]
          rw [← h2, this]
          rfl
        · simp [h2, eR, pairHit, show f ≠ b by omega]
      · by_cases h3 : f = b
        · subst h3
          by_cases h2 : v = p.2
          · have := hx (a, p.1) (by simp [pairHit, h1, h2])
            simp [h1, h2, eR, forced, this]
            rw [← h2, this]
            rfl
          · simp [h1, h2, eR, pairHit]
        · simp [h1, h3, eR, pairHit]
    · rintro st hn ⟨x, y, rfl⟩
      simp [forced, hn, eR]
theorem refuses_eq {T : Tbl} [Fc T "refuses" p_refuses] [Fc T "forced_by" p_forced_by] {n : Nat} {g : List GI} {ns : List Nat} (hs : Sz ns) {r : Rule} (h : ROk ns r) {f v : Nat} (hv : v < 10 ^ 12) (hf : f < 10 ^ 12) : callN T (n + 2) "refuses" [.v (eR r), .v (.int f), .v (.int v)] g = .ret (.v (.bl (refuses r (f, v)))) [.v (eR r), .v (.int f), .v (.int v)] g := by
  refine eq_of (run_in (Fc.at_ : T "refuses" = some p_refuses) rfl rfl ?_)
  cases r with
  | among a es =>
    obtain ⟨h1, h2, h3⟩ := h
    have := notin_of (in_L hv fun a ha => hs.small (h3 a ha))
    by_cases e : f = a <;> simp [eR, e, this, refuses]
  | eith a b c d => simp [eR, refuses]
  | mtch a b ps =>
    have fb := fun n => forced_by_eq (T := T) (n := n) (g := g) h (f := f) (v := v)
    obtain ⟨h1, h2, h3, h4, h5⟩ := h
    have h8 := hs.hi
    have i : cmpO .In (.v (.int f)) (.v (eP (a, b))) = some (f == a || f == b) := by
      have e0 : ([a, b].contains f) = (f == a || f == b) := by simp [List.contains_cons]; rfl
      rw [← e0]
      exact in_L (l := [a, b]) hf (by simp; omega)
    simp only [eR] at fb
    have e1 : refuses (.mtch a b ps) (f, v) = ((f == a || f == b) && (forced (.mtch a b ps) (f, v)).isNone) := rfl
    rw [e1]
    cases q : (f == a || f == b) with
    | true =>
      rw [q] at i
      simp [eR, i, fb]
    | false =>
      rw [q] at i
      simp [eR, i]

/-! ### closure -/
abbrev sS (c : List CStep) : List PV := c.map eS
def kn (c : List CStep) : List (PV × PV) := c.map fun s => (eP s.2, .bl true)
theorem keyEq_P {a b : Nat × Nat} : keyEq (eP a) (eP b) = decide (a = b) := by
  obtain ⟨a1, a2⟩ := a
  obtain ⟨b1, b2⟩ := b
  simp only [eP, keyEq, keyEq.keysEq, Bool.and_true]
  rw [Bool.eq_iff_iff]
  simp
theorem dHas_kn (c : List CStep) (l : Lit) : dHas (kn c) (eP l) = has c l := by
  unfold dHas has kn
  induction c with
  | nil => rfl
  | cons s r ih =>
    rw [List.map_cons, dGet, keyEq_P, List.map_cons, List.contains_cons]
    by_cases h : s.2 = l
    · simp [h]
    · have : (l == s.2) = false := by simpa using fun e => h e.symm
      simp [h, this]
      rw [ih]
      simp
theorem dPut_kn {c : List CStep} {o : Option Nat} {l : Lit} (h : has c l = false) : dPut (kn c) (eP l) (.bl true) = kn (c ++ [(o, l)]) := by
  unfold dPut
  rw [dHas_kn, h]
  simp [kn]
@[simp] theorem key_P {l : Lit} : keyOk true (eP l) = true := rfl
theorem in_kn (c : List CStep) (l : Lit) : cmpO .In (.v (eP l)) (.d (.dct true (kn c))) = some (has c l) := by
  have : cmpO .In (.v (eP l)) (.d (.dct true (kn c))) = if keyOk true (eP l) then some (dHas (kn c) (eP l)) else none := rfl
  rw [this, key_P, dHas_kn]
  rfl
theorem notin_kn (c : List CStep) (l : Lit) : cmpO .NotIn (.v (eP l)) (.d (.dct true (kn c))) = some (!has c l) := notin_of (in_kn c l)
theorem ix_S {c : List CStep} {i : Nat} {s : CStep} (h : c[i]? = some s) : ixO (.d (.lst (sS c))) (.v (.int i)) = some (eS s) := ix_ofl (by rw [List.getElem?_map, h]; rfl)
@[simp] theorem ix_S0 {s : CStep} : ixO (.v (eS s)) (.v (.int 0)) = some (eO s.1) := by simp [eS]
@[simp] theorem ix_S1 {s : CStep} : ixO (.v (eS s)) (.v (.int 1)) = some (.int s.2.1) := by simp [eS]
@[simp] theorem ix_S2 {s : CStep} : ixO (.v (eS s)) (.v (.int 2)) = some (.int s.2.2) := by simp [eS]
theorem sS_app {c : List CStep} {o : Option Nat} {l : Lit} : sS c ++ [.tup [eO o, .int l.1, .int l.2]] = sS (c ++ [(o, l)]) := by simp [sS, eS]
theorem kn_len (c : List CStep) : (kn c).length = c.length := by simp [kn]
theorem closure_eq {T : Tbl} [Fc T "closure" p_closure] [Fc T "forced_by" p_forced_by] {n : Nat} {g : List GI} {ns : List Nat} (hs : Sz ns) {B : List Rule} (hB : BOk ns B) (hl : B.length ≤ 1000) {ls : List Lit} (hls : ∀ l ∈ ls, LOk ns l) : callN T (n + 2) "closure" [.v (eB B), .own (.lst (ls.map eP))] g = .ret (.own (.lst (sS (closure B ls)))) [.v (eB B), .v (.lst (ls.map eP))] g := by
  refine eq_of (run_in (Fc.at_ : T "closure" = some p_closure) rfl rfl ?_)
  have h8 := hs.hi
  have h5 := hs.le5
  simp
  refine for_map (fun pre st => ∃ x y, Good ns B ls (pre.foldl (fun c l => add1 c none l) []) ∧ st = ⟨[Vv (eB B), Vv (.lst (ls.map eP)), Vo (sS (pre.foldl (fun c l => add1 c none l) [])), some (.own (.dct true (kn (pre.foldl (fun c l => add1 c none l) [])))), x, y, none, none, none], g⟩) ?_ ⟨_, _, ⟨List.Pairwise.nil, fun s hs => (by cases hs), fun i s e => (by simp at e)⟩, rfl⟩ ?_
  · rintro pre l post st e ⟨x, y, hg, rfl⟩
    rw [List.foldl_append, List.foldl_cons, List.foldl_nil]
    generalize pre.foldl (fun c l => add1 c none l) [] = c at hg
    have few := hg.few h8 h5
    have hl : l ∈ ls := by rw [e]; simp
    have hg' := hg.add (o := none) (hls l hl) (.inl ⟨rfl, hl⟩)
    cases q : has c l with
    | true =>
      have e1 : add1 c none l = c := by simp [add1, q]
      rw [e1]
      simp [notin_kn, q]
      exact hg
    | false =>
      have e1 : add1 c none l = c ++ [(none, l)] := by simp [add1, q]
      rw [e1] at hg' ⊢
      simp [notin_kn, q, subO, kn_len, show c.length < line by unfold line; omega, dPut_kn (o := none) q]
      exact ⟨hg', rfl⟩
  · rintro st ⟨x, y, hg, rfl⟩
    have e0 : ls.foldl (fun c l => add1 c none l) [] = start ls := rfl
    rw [e0] at hg
    simp [e0]
    refine whl_wp (fun m st => ∃ i c x y z w, m + i = 100 ∧ Good ns B ls c ∧ i ≤ c.length ∧ closeN B m i c = closure B ls ∧ st = ⟨[Vv (eB B), Vv (.lst (ls.map eP)), Vo (sS c), some (.own (.dct true (kn c))), x, y, Vv (.int i), z, w], g⟩) ?_ (m := 100) ⟨0, _, _, _, _, _, rfl, hg, Nat.zero_le _, rfl, rfl⟩ (by decide)
    rintro m st ⟨i, c, x, y, z, w, hm, hg, hi, hc, rfl⟩
    have few := hg.few h8 h5
    simp
    obtain ⟨m, rfl⟩ : ∃ k, m = k + 1 := ⟨m - 1, by omega⟩
    by_cases hlt : i < c.length
    · obtain ⟨s, es⟩ : ∃ s, c[i]? = some s := ⟨c[i], by simp [hlt]⟩
      simp [hlt, r_0 (n := B.length) (by omega)]
      refine for_map (fun pre st => ∃ x y z w, Good ns B ls (pre.foldl (addK B s.2) c) ∧ (pre.foldl (addK B s.2) c)[i]? = some s ∧ st = ⟨[Vv (eB B), Vv (.lst (ls.map eP)), Vo (sS (pre.foldl (addK B s.2) c)), some (.own (.dct true (kn (pre.foldl (addK B s.2) c)))), x, y, Vv (.int i), z, w], g⟩) ?_ ⟨_, _, _, _, hg, es, rfl⟩ ?_
      · rintro pre k post st e ⟨x, y, z, w, hg, es, rfl⟩
        rw [List.foldl_append, List.foldl_cons, List.foldl_nil]
        generalize pre.foldl (addK B s.2) c = c at hg es
        have few := hg.few h8 h5
        have hk : k < B.length := by
          rw [← List.mem_range, e]
          simp
        have ek : B[k]? = some B[k] := by simp [hk]
        have hr := hB _ (List.mem_of_getElem? ek)
        have hg' := hg.addK hB es k
        generalize B[k] = r at ek hr
        cases q : forced r s.2 with
        | none =>
          have e1 : addK B s.2 c k = c := by simp [addK, ek, q]
          rw [e1]
          simp [ix_B ek, ix_S es, forced_by_eq hr, q]
          exact ⟨hg, es⟩
        | some f =>
          cases q2 : has c f with
          | true =>
            have e1 : addK B s.2 c k = c := by simp [addK, ek, q, add1, q2]
            rw [e1]
            simp [ix_B ek, ix_S es, forced_by_eq hr, q, notin_kn, q2]
            exact ⟨hg, es⟩
          | false =>
            have e1 : addK B s.2 c k = c ++ [(some k, f)] := by simp [addK, ek, q, add1, q2]
            rw [e1] at hg' ⊢
            have es' : (c ++ [(some k, f)])[i]? = some s := by
              rw [List.getElem?_append_left (List.getElem?_eq_some_iff.mp es).1]
              exact es
            simp [ix_B ek, ix_S es, forced_by_eq hr, q, notin_kn, q2, subO, kn_len, show c.length < line by unfold line; omega, dPut_kn (o := some k) q2]
            exact ⟨hg', es', rfl⟩
      · rintro st ⟨x, y, z, w, hg, es', rfl⟩
        have ei : (List.range B.length).foldl (addK B s.2) c = inner B s.2 c := rfl
        rw [ei] at hg
        obtain ⟨d, ed⟩ := inner_pre B s.2 c
        rw [closeN, es] at hc
        simp [ei]
        exact ⟨m, Nat.lt_succ_self _, i + 1, by omega, inner B s.2 c, hg, by rw [ed]; simp; omega, hc, rfl, rfl, by simp⟩
    · have : c[i]? = none := by simp; omega
      rw [closeN, this] at hc
      simp [hlt]
      have hc : c = closure B ls := hc
      rw [hc]

/-! ### what is asked of it -/
theorem lenSet_of {l : List Nat} (h64 : l.length < 64) : bltO .lenSet [.d (.lst (nL l))] = some (.v (.int (dedup (l.map fun (n : Nat) => (n : Int))).length)) := by
  simp only [bltO, lst_d, Option.bind_some, ints_nat, List.length_map, h64, if_true]
theorem dedup_lt {l : List Nat} (h : ¬ l.Nodup) : (dedup (l.map fun (n : Nat) => (n : Int))).length < l.length := by
  induction l with
  | nil => exact absurd List.Pairwise.nil h
  | cons a r ih =>
    rw [List.map_cons, dedup, List.length_cons, List.length_cons]
    have le := dedup_le (r.map fun (n : Nat) => (n : Int))
    rw [List.length_map] at le
    by_cases q : r.Nodup
    · have ha : a ∈ r := by
        by_cases z : a ∈ r
        · exact z
        · exact absurd (List.nodup_cons.mpr ⟨z, q⟩) h
      have m : (a : Int) ∈ dedup (r.map fun (n : Nat) => (n : Int)) := dedup_mem.mpr (List.mem_map_of_mem (f := fun (n : Nat) => (n : Int)) ha)
      have := List.length_filter_lt_length_iff_exists (p := fun (y : Int) => y != (a : Int)).mpr ⟨(a : Int), m, by simp⟩
      omega
    · have := ih q
      have := List.length_filter_le (fun (y : Int) => y != (a : Int)) (dedup (r.map fun (n : Nat) => (n : Int)))
      omega

theorem closure_LOk {ns : List Nat} (hs : Sz ns) {B : List Rule} (hB : BOk ns B) {ls : List Lit} (hls : ∀ l ∈ ls, LOk ns l) : Good ns B ls (closure B ls) := (closure_ok hs.hi hs.le5 hB hls).1
def optN : Option Nat → PV := eO
theorem first_refusal_eq {T : Tbl} [Fc T "first_refusal" p_first_refusal] [Fc T "refuses" p_refuses] [Fc T "forced_by" p_forced_by] {n : Nat} {g : List GI} {ns : List Nat} (hs : Sz ns) {B : List Rule} (hB : BOk ns B) (hl : B.length ≤ 1000) {c : List CStep} (hc : ∀ s ∈ c, LOk ns s.2) : callN T (n + 3) "first_refusal" [.v (eB B), .v (.lst (sS c))] g = .ret (.v (eO (firstRef B c))) [.v (eB B), .v (.lst (sS c))] g := by
  refine eq_of (run_in (Fc.at_ : T "first_refusal" = some p_first_refusal) rfl rfl ?_)
  have h8 := hs.hi
  simp
  refine for_find (fun s => (List.range B.length).findSome? (refAt B s.2)) (fun st => ∃ x y, st = ⟨[Vv (eB B), Vv (.lst (sS c)), x, y], g⟩) ?_ ⟨none, none, rfl⟩ ?_
  · rintro s hm st ⟨x, y, rfl⟩ hx
    have hls := hc s hm
    have hlt := LOk.lt hls
    unfold LOk at hls
    simp [r_0 (n := B.length) (by omega)]
    refine for_find (refAt B s.2) (fun st => ∃ y, st = ⟨[Vv (eB B), Vv (.lst (sS c)), Vv (eS s), y], g⟩) ?_ ⟨y, rfl⟩ ?_
    · rintro k hk st ⟨y, rfl⟩ hx2
      have hk : k < B.length := List.mem_range.mp hk
      have ek : B[k]? = some B[k] := by simp [hk]
      have hr := hB _ (List.mem_of_getElem? ek)
      generalize B[k] = r at ek hr
      have e := fun n => refuses_eq (T := T) (n := n) (g := g) hs hr (f := s.2.1) (v := s.2.2) (hs.small hls) (by omega)
      cases q : refuses r s.2 with
      | true =>
        have e2 : firstRef B c = some k := hx k (hx2 k (by simp [refAt, ek, q]))
        simp [ix_B ek, e, q, e2, eO]
      | false => simp [ix_B ek, e, q, refAt, ek]
    · rintro st hn ⟨y, rfl⟩
      simp [hn]
  · rintro st hn ⟨x, y, rfl⟩
    have e2 : firstRef B c = none := hn
    simp [e2, eO]
theorem comes_twice_eq {T : Tbl} [Fc T "comes_twice" p_comes_twice] {n : Nat} {g : List GI} {c : List CStep} (hc : c.length < 64) : callN T (n + 1) "comes_twice" [.own (.lst (sS c))] g = .ret (.v (.bl (twice c))) [.v (.lst (sS c))] g := by
  refine eq_of (run_in (Fc.at_ : T "comes_twice" = some p_comes_twice) rfl rfl ?_)
  simp
  refine lc_map (fun s => .int s.2.1) (fun s hs => lcF_ok rfl ?_) ?_
  · simp
  · have hz : c.length ≤ line := by unfold line; omega
    by_cases q : (c.map (·.2.1)).Nodup
    · have := lenSet_nodup q (by simpa using hc)
      simp [nL, Function.comp_def] at this
      simp [twice, q, this, hz]
    · have := lenSet_of (l := c.map (·.2.1)) (by simpa using hc)
      have lt := dedup_lt q
      simp [nL, Function.comp_def] at this lt
      simp [twice, q, this, hz]
      omega
theorem clashes_eq {T : Tbl} [Fc T "clashes" p_clashes] [Fc T "comes_twice" p_comes_twice] [Fc T "first_refusal" p_first_refusal] [Fc T "refuses" p_refuses] [Fc T "forced_by" p_forced_by] {n : Nat} {g : List GI} {ns : List Nat} (hs : Sz ns) {B : List Rule} (hB : BOk ns B) (hl : B.length ≤ 1000) {c : List CStep} (hc : ∀ s ∈ c, LOk ns s.2) (h64 : c.length < 64) : callN T (n + 4) "clashes" [.v (eB B), .own (.lst (sS c))] g = .ret (.v (.bl (clashB B c))) [.v (eB B), .v (.lst (sS c))] g := by
  refine eq_of (run_in (Fc.at_ : T "clashes" = some p_clashes) rfl rfl ?_)
  cases q : twice c with
  | true => simp [comes_twice_eq h64, q, clashB]
  | false =>
    simp [comes_twice_eq h64, q, clashB, first_refusal_eq hs hB hl hc]
/-! part_of -/
def enV (c : List CStep) (f : Nat) : Option Nat := (c.find? fun s => s.2.1 == f).map (·.2.2)
def partOf (ns : List Nat) (c : List CStep) : List (Option Nat) := (List.range ns.length).map (enV c)
def dct (c : List CStep) : List (PV × PV) := c.map fun s => (.int s.2.1, .int s.2.2)
theorem dGet_dct (c : List CStep) (f : Nat) : dGet (dct c) (.int f) = (enV c f).map fun (n : Nat) => .int n := by
  unfold dct enV
  induction c with
  | nil => rfl
  | cons s r ih =>
    rw [List.map_cons, dGet, List.find?_cons]
    have e : keyEq (.int s.2.1) (.int f) = (s.2.1 == f) := by
      simp only [keyEq]
      rw [Bool.eq_iff_iff]
      simp
    rw [e]
    cases s.2.1 == f with
    | true => rfl
    | false =>
      rw [ih]
      rfl
theorem dPut_dct {c : List CStep} {s : CStep} (h : ∀ t ∈ c, t.2.1 ≠ s.2.1) : dPut (dct c) (.int s.2.1) (.int s.2.2) = dct (c ++ [s]) := by
  have : enV c s.2.1 = none := by
    unfold enV
    rw [Option.map_eq_none_iff, List.find?_eq_none]
    intro t ht
    simpa using h t ht
  unfold dPut dHas
  rw [dGet_dct, this]
  simp [dct]
theorem part_of_eq {T : Tbl} [Fc T "part_of" p_part_of] {n : Nat} {g : List GI} {ns : List Nat} (hs : Sz ns) {c : List CStep} (hc : (c.map (·.2.1)).Nodup) (h64 : c.length < 64) : callN T (n + 1) "part_of" [.v (eL ns), .v (.lst (sS c))] g = .ret (.v (eT (partOf ns c))) [.v (eL ns), .v (.lst (sS c))] g := by
  refine eq_of (run_in (Fc.at_ : T "part_of" = some p_part_of) rfl rfl ?_)
  have h8 := hs.hi
  simp
  refine fold_map dct rfl (fun pre s post e => dcF_ok rfl ?_) ?_
  · have hd : ∀ t ∈ pre, t.2.1 ≠ s.2.1 := fun t ht => by
      rw [e, List.map_append, List.nodup_append] at hc
      exact hc.2.2 _ (List.mem_map_of_mem ht) _ (by simp)
    have hlen : pre.length < 64 := by
      rw [e] at h64
      simp at h64
      omega
    have e2 : dcPut false (dct pre) (.int s.2.1) (.int s.2.2) = some (dct (pre ++ [s])) := by
      have : (dct pre).length < line := by simp [dct]; unfold line; omega
      simp [dcPut, keyOk, flatKey, this, dPut_dct hd]
    simp [e2]
  · simp [r_0 (n := ns.length) (by omega)]
    refine lc_map (fun f => eO (enV c f)) (fun f hf => lcF_ok rfl ?_) ?_
    · simp [recvOk, methO, keyOk, flatKey, dGet_dct]
      cases enV c f <;> rfl
    · simp [partOf, eT, Function.comp_def, line]
      omega

/-! ### followed, clash -/
def litAt (p : List (Option Nat)) (k : Nat) : Option Lit := (ol p k).map fun v => (k, v)
def litsOf (p : List (Option Nat)) : List Lit := (List.range p.length).filterMap (litAt p)
theorem mem_lits {p : List (Option Nat)} {l : Lit} : l ∈ litsOf p ↔ ol p l.1 = some l.2 := by
  unfold litsOf
  rw [List.mem_filterMap]
  constructor
  · rintro ⟨k, _, h⟩
    obtain ⟨v, h1, rfl⟩ := Option.map_eq_some_iff.mp h
    exact h1
  · intro h
    exact ⟨l.1, List.mem_range.mpr (ol_lt h), by rw [litAt, h]; rfl⟩
theorem lits_map (p : List (Option Nat)) : ((List.range p.length).filter fun k => (ol p k).isSome).map (fun (k : Nat) => PV.tup [.int k, eO (ol p k)]) = (litsOf p).map eP := by
  unfold litsOf
  generalize List.range p.length = l
  induction l with
  | nil => rfl
  | cons k r ih =>
    rw [List.filter_cons, List.filterMap_cons]
    cases h : ol p k with
    | none =>
      have : litAt p k = none := by simp [litAt, h]
      simp [this]
      exact ih
    | some v =>
      have : litAt p k = some (k, v) := by simp [litAt, h]
      simp [this, h]
      exact ih
theorem Pt.lok {ns : List Nat} {p : List (Option Nat)} (h : Pt ns p) : ∀ l ∈ litsOf p, LOk ns l := fun l hl => h.ok l.1 l.2 (mem_lits.mp hl)
def followedF (ns : List Nat) (B : List Rule) (p : List (Option Nat)) : Option (List (Option Nat)) := if clashB B (closure B (litsOf p)) = true then none else some (partOf ns (closure B (litsOf p)))
def eOT : Option (List (Option Nat)) → PV
  | none => .non
  | some p => eT p
@[simp] theorem eOT_n : eOT none = .non := rfl
@[simp] theorem eOT_s {p : List (Option Nat)} : eOT (some p) = eT p := rfl
theorem not_twice {B : List Rule} {c : List CStep} (h : clashB B c = false) : (c.map (·.2.1)).Nodup := by
  unfold clashB twice at h
  simp at h
  simpa [Function.comp_def] using h.1
theorem followed_eq {T : Tbl} [Fc T "followed" p_followed] [Fc T "need_sheet" p_need_sheet] [Fc T "is_sheet" p_is_sheet] [Fc T "is_between" p_is_between] [Fc T "need_book" p_need_book] [Fc T "is_book_of" p_is_book_of] [Fc T "is_rule_of" p_is_rule_of] [Fc T "are_entries" p_are_entries] [Fc T "is_rising" p_is_rising] [Fc T "are_two_fields" p_are_two_fields] [Fc T "are_partners" p_are_partners] [Fc T "is_pair" p_is_pair] [Fc T "need_part" p_need_part] [Fc T "is_part_of" p_is_part_of] [Fc T "closure" p_closure] [Fc T "forced_by" p_forced_by] [Fc T "clashes" p_clashes] [Fc T "comes_twice" p_comes_twice] [Fc T "first_refusal" p_first_refusal] [Fc T "refuses" p_refuses] [Fc T "part_of" p_part_of] {n : Nat} {g : List GI} {ns : List Nat} (hs : Sz ns) {B : List Rule} (hB : BOk ns B) (hl : B.length ≤ 1000) {p : List (Option Nat)} (hp : Pt ns p) : callN T (n + 7) "followed" [.v (eL ns), .v (eB B), .v (eT p)] g = .ret (.v (eOT (followedF ns B p))) [.v (eL ns), .v (eB B), .v (eT p)] g := by
  refine eq_of (run_in (Fc.at_ : T "followed" = some p_followed) rfl rfl ?_)
  have h8 := hs.hi
  have hlen := hp.len
  simp [need_sheet_eq hs, need_book_eq hs hB hl, need_part_eq hs hp, r_0 (n := p.length) (by omega)]
  refine lc_filter (fun k => (ol p k).isSome) (fun (k : Nat) => .tup [.int k, eO (ol p k)]) (fun k hk => lcF_ok rfl ?_) ?_
  · have hk : k < p.length := List.mem_range.mp hk
    cases h : ol p k <;> simp [ix_T hk, h, eO]
  · have hz := List.length_filter_le (fun k => (ol p k).isSome) (List.range p.length)
    have gd := closure_LOk hs hB hp.lok
    have few := gd.few h8 hs.le5
    rw [lits_map]
    simp at hz
    have hz2 : (litsOf p).length ≤ line := by
      have := congrArg List.length (lits_map p)
      simp at this
      unfold line
      omega
    cases q : clashB B (closure B (litsOf p)) with
    | true => simp [hz2, closure_eq hs hB hl hp.lok, clashes_eq hs hB hl gd.ok (show (closure B (litsOf p)).length < 64 by omega), q, followedF]
    | false => simp [hz2, closure_eq hs hB hl hp.lok, clashes_eq hs hB hl gd.ok (show (closure B (litsOf p)).length < 64 by omega), q, followedF, part_of_eq hs (not_twice q) (show (closure B (litsOf p)).length < 64 by omega)]
def clashF (B : List Rule) (l : Lit) : Option (List CStep × Option Nat) := if clashB B (closure B [l]) = true then some ((closure B [l]).drop 1, firstRef B (closure B [l])) else none
def eCl : Option (List CStep × Option Nat) → PV
  | none => .non
  | some (c, k) => .tup [.tup (sS c), eO k]
@[simp] theorem eCl_n : eCl none = .non := rfl
@[simp] theorem eCl_s {c : List CStep} {k : Option Nat} : eCl (some (c, k)) = .tup [.tup (sS c), eO k] := rfl
theorem clash_eq {T : Tbl} [Fc T "clash" p_clash] [Fc T "need_sheet" p_need_sheet] [Fc T "is_sheet" p_is_sheet] [Fc T "is_between" p_is_between] [Fc T "need_book" p_need_book] [Fc T "is_book_of" p_is_book_of] [Fc T "is_rule_of" p_is_rule_of] [Fc T "are_entries" p_are_entries] [Fc T "is_rising" p_is_rising] [Fc T "are_two_fields" p_are_two_fields] [Fc T "are_partners" p_are_partners] [Fc T "is_pair" p_is_pair] [Fc T "need_field" p_need_field] [Fc T "need_entry" p_need_entry] [Fc T "closure" p_closure] [Fc T "forced_by" p_forced_by] [Fc T "clashes" p_clashes] [Fc T "comes_twice" p_comes_twice] [Fc T "first_refusal" p_first_refusal] [Fc T "refuses" p_refuses] {n : Nat} {g : List GI} {ns : List Nat} (hs : Sz ns) {B : List Rule} (hB : BOk ns B) (hl : B.length ≤ 1000) {f v : Nat} (hv : v < vl ns f) : callN T (n + 7) "clash" [.v (eL ns), .v (eB B), .v (.int f), .v (.int v)] g = .ret (.v (eCl (clashF B (f, v)))) [.v (eL ns), .v (eB B), .v (.int f), .v (.int v)] g := by
  refine eq_of (run_in (Fc.at_ : T "clash" = some p_clash) rfl rfl ?_)
  have h8 := hs.hi
  have hf := vl_lt hv
  have ok : ∀ l ∈ [((f, v) : Lit)], LOk ns l := fun l h => by
    rw [List.mem_singleton] at h
    rw [h]
    exact hv
  have ce := fun n => closure_eq (T := T) (n := n) (g := g) hs hB hl ok
  simp only [List.map] at ce
  have gd := closure_LOk hs hB ok
  have few := gd.few h8 hs.le5
  have f64 : (closure B [(f, v)]).length < 64 := by omega
  cases q : clashB B (closure B [(f, v)]) with
  | true => simp [need_sheet_eq hs, need_book_eq hs hB hl, need_field_eq hf, need_entry_eq hv, ce, clashes_eq hs hB hl gd.ok f64, q, clashF, first_refusal_eq hs hB hl gd.ok]
  | false => simp [need_sheet_eq hs, need_book_eq hs hB hl, need_field_eq hf, need_entry_eq hv, ce, clashes_eq hs hB hl gd.ok f64, q, clashF]
end Q
end
section
set_option maxHeartbeats 4000000
namespace Q
open PySem Q.M
theorem draw_partial_wp {T : Tbl} [Fc T "_law_draw_partial" h_draw_partial] [Fc T "_law_take" h_take] {n : Nat} {g : List GI} {q : SV → List SV → List GI → Prop} {e : XV → List SV → List GI → Prop} {m : Nat} {ns : List Nat} {xs : List PV} (hs : Sz ns) (hb : BagOk m xs) (hm : m ≤ 800000)
    (k : ∀ p xs', Pt ns p → BagOk (m + 20) xs' → q (.v (eT p)) [.own (.lst xs'), .v (eL ns)] g) : (callN T (n + 2) "_law_draw_partial" [.own (.lst xs), .v (eL ns)] g).wq q e := by
  refine run_in (Fc.at_ : T "_law_draw_partial" = some h_draw_partial) rfl rfl ?_
  have h8 := hs.hi
  simp
  refine take_wp (many := 4) (by omega) (by omega) hb (by omega) fun way xs1 hw hb1 => ?_
  simp
  refine for_map (fun pre st => ∃ (p : List (Option Nat)) (ys : List PV) (x4 : Option SV), p.length = pre.length ∧ (∀ f v, ol p f = some v → v < vl ns f) ∧ BagOk (m + 1 + 2 * pre.length) ys ∧ st = ⟨[Vo ys, Vv (eL ns), Vv (.int way), Vo (p.map eO), x4], g⟩) ?_ ⟨[], xs1, none, rfl, fun f v h => by simp [ol] at h, hb1, rfl⟩ ?_
  · rintro pre s post st e ⟨p, ys, x4, hl, hp, hy, rfl⟩
    have le := congrArg List.length e
    simp at le
    have es : vl ns pre.length = s := by
      unfold vl
      rw [List.getD_eq_getElem?_getD, e, List.getElem?_append_right (Nat.le_refl _)]
      simp
    have hv := hs.at_ pre.length (by omega)
    rw [es] at hv
    have hz : p.length < line := by unfold line; omega
    have ap : ∀ (o : Option Nat), (∀ v, o = some v → v < s) → ∀ f v, ol (p ++ [o]) f = some v → v < vl ns f := fun o ho f v h => by
      unfold ol at h
      by_cases c : f < p.length
      · rw [List.getElem?_append_left c] at h
        exact hp f v h
      · by_cases c2 : f = p.length
        · rw [c2] at h
          simp at h
          rw [c2, hl, es]
          exact ho v h
        · rw [List.getElem?_eq_none (by simp; omega)] at h
          simp at h
    have drop : ∀ ys', BagOk (m + 1 + 2 * pre.length + 1) ys' → ∃ p', p.map eO ++ [PV.non] = p'.map eO ∧ p'.length = pre.length + 1 ∧ (∀ f v, ol p' f = some v → v < vl ns f) := fun _ _ => ⟨p ++ [none], by simp, by simp [hl], ap none fun v h => by cases h⟩
    by_cases w0 : way = 0
    · simp [eq_true w0, hz]
      exact ⟨p ++ [none], by simp [hl], ap none (fun v h => by cases h), ys, hy.up (by omega), rfl, by simp⟩
    · simp [w0]
      refine take_wp (many := 4) (by omega) (by omega) hy (by omega) fun t ys' ht hy' => ?_
      by_cases c : ((t : Nat) : Int) < (way : Int) - 1
      · simp [c, hz]
        exact ⟨p ++ [none], by simp [hl], ap none (fun v h => by cases h), ys', hy'.up (by omega), rfl, by simp⟩
      · simp [c, hz]
        refine take_wp (many := s) (by omega) (by omega) hy' (by omega) fun v ys2 hv2 hy2 => ?_
        simp [hz]
        exact ⟨p ++ [some v], by simp [hl], ap (some v) (fun u h => by cases h; exact hv2), ys2, hy2.up (by omega), rfl, by simp⟩
  · rintro st ⟨p, ys, x4, hl, hp, hy, rfl⟩
    have hz : p.length ≤ line := by unfold line; omega
    simp [hz]
    exact k p ys ⟨hl, hp⟩ (hy.up (by omega))
/-! ### the test's own closure -/
theorem q_P {p q : Pr} (h1 : p.1 < 10 ^ 12) (h2 : p.2 < 10 ^ 12) (h3 : q.1 < 10 ^ 12) (h4 : q.2 < 10 ^ 12) : cmpO .Eq (.v (eP p)) (.v (eP q)) = some (decide (p = q)) :=
  c_same rfl rfl (gd_P h1 h2) (gd_P h3 h4) (by decide) rfl rfl (fun s h => by cases h) (by simp)
def fL (r : Rule) (l : Lit) : List Lit := match r with
  | .mtch f g ps => ps.filterMap (pairHit f g l)
  | r => (forced r l).toList
theorem fL_mem {ns : List Nat} {r : Rule} (h : ROk ns r) {l x : Lit} : x ∈ fL r l ↔ forced r l = some x := by
  cases r with
  | among f es => simp [fL, forced]
  | eith f v k w => simp [fL]
  | mtch f k ps =>
    rw [forced_m h]
    have hne := h.1
    simp only [fL, List.mem_filterMap]
    constructor
    · rintro ⟨⟨a, b⟩, hp, e⟩
      unfold pairHit at e
      obtain ⟨u, v⟩ := l
      simp at e
      split at e
      · rename_i c
        cases e
        obtain ⟨rfl, rfl⟩ := c
        exact .inl ⟨rfl, rfl, hp⟩
      · split at e
        · rename_i c
          cases e
          obtain ⟨rfl, rfl⟩ := c
          exact .inr ⟨rfl, rfl, hp⟩
        · cases e
    · obtain ⟨u, v⟩ := l
      obtain ⟨y, z⟩ := x
      rintro (⟨h1, h2, h3⟩ | ⟨h1, h2, h3⟩)
      · simp at h1 h2 h3
        subst h1 h2
        exact ⟨_, h3, by simp [pairHit]⟩
      · simp at h1 h2 h3
        subst h1 h2
        refine ⟨_, h3, ?_⟩
        simp [pairHit]
theorem forces_eq {T : Tbl} [Fc T "_law_forces" h_forces] {n : Nat} {g : List GI} {ns : List Nat} (hs : Sz ns) {r : Rule} (h : ROk ns r) {f v : Nat} (hf : f < ns.length) (hv : v < vl ns f) : callN T (n + 1) "_law_forces" [.v (eR r), .v (.int f), .v (.int v)] g = .ret (.own (.lst ((fL r (f, v)).map eP))) [.v (eR r), .v (.int f), .v (.int v)] g := by
  refine eq_of (run_in (Fc.at_ : T "_law_forces" = some h_forces) rfl rfl ?_)
  cases r with
  | among a es => simp [eR, fL, forced]
  | eith a b c d =>
    have hac := h.1
    have hL : 0 < line := by decide
    by_cases h1 : f = a
    · subst h1
      by_cases h2 : v = b <;> simp [eR, fL, forced, h2, hL, show f ≠ c by omega]
    · by_cases h3 : f = c
      · subst h3
        by_cases h2 : v = d <;> simp [eR, fL, forced, h1, h2, hL]
      · simp [eR, fL, forced, h1, h3]
  | mtch a b ps =>
    have hab := h.1
    have h8 := hs.hi
    have h5 := hs.le5 f
    have hp5 := ROk.small hs h
    have hb := h.2.1
    have vp := h.2.2.2.2
    simp [eR]
    refine for_map (fun pre st => ∃ x y, st = ⟨[Vv (eR (.mtch a b ps)), Vv (.int f), Vv (.int v), Vo ((pre.filterMap (pairHit a b (f, v))).map eP), x, y], g⟩) ?_ ⟨_, _, rfl⟩ ?_
    · rintro pre ⟨u, w⟩ post st e ⟨x, y, rfl⟩
      have mp : (u, w) ∈ ps := by rw [e]; simp
      have v1 := vp _ mp
      have b1 := hs.le5 a
      have b2 := hs.le5 b
      simp at v1
      have q1 := q_P (p := (f, v)) (q := (a, u)) (by simp; omega) (by simp; omega) (by simp; omega) (by simp; omega)
      have q2 := q_P (p := (f, v)) (q := (b, w)) (by simp; omega) (by simp; omega) (by simp; omega) (by simp; omega)
      have hz : (pre.filterMap (pairHit a b (f, v))).length < line := by
        have := List.length_filterMap_le (pairHit a b (f, v)) pre
        have le := congrArg List.length e
        simp at le
        unfold line
        omega
      by_cases h1 : f = a ∧ v = u
      · obtain ⟨rfl, rfl⟩ := h1
        simp [eR, q1, q2, hz, pairHit, show f ≠ b by omega]
      · by_cases h2 : f = b ∧ v = w
        · obtain ⟨rfl, rfl⟩ := h2
          have : ¬ f = a := by omega
          simp [eR, q1, q2, hz, pairHit, this]
        · have n1 : ¬ ((f, v) = (a, u)) := fun e => h1 (by simpa using e)
          have n2 : ¬ ((f, v) = (b, w)) := fun e => h2 (by simpa using e)
          simp [eR, q1, q2, hz, pairHit, h1, h2]
    · rintro st ⟨x, y, rfl⟩
      simp [eR, fL]
theorem forced_none_m {ns : List Nat} {f k : Nat} {ps : List (Nat × Nat)} (h : ROk ns (.mtch f k ps)) {l : Lit} : (forced (.mtch f k ps) l).isNone = ((l.1 != f || !(ps.map (·.1)).contains l.2) && (l.1 != k || !(ps.map (·.2)).contains l.2)) := by
  have hne := h.1
  rw [Bool.eq_iff_iff]
  simp only [Option.isNone_iff_eq_none, Bool.and_eq_true, Bool.or_eq_true, bne_iff_ne, Bool.not_eq_true']
  constructor
  · intro hn
    constructor
    · by_cases c : l.1 = f
      · right
        rw [Bool.eq_false_iff]
        intro hc
        obtain ⟨p, hp, e⟩ := List.mem_map.mp (List.contains_iff_mem.mp hc)
        have := (forced_m h (l := l) (l' := (k, p.2))).mpr (.inl ⟨c, rfl, by rw [← e]; exact hp⟩)
        rw [hn] at this
        cases this
      · exact .inl c
    · by_cases c : l.1 = k
      · right
        rw [Bool.eq_false_iff]
        intro hc
        obtain ⟨p, hp, e⟩ := List.mem_map.mp (List.contains_iff_mem.mp hc)
        have := (forced_m h (l := l) (l' := (f, p.1))).mpr (.inr ⟨c, rfl, by rw [← e]; exact hp⟩)
        rw [hn] at this
        cases this
      · exact .inl c
  · rintro ⟨h1, h2⟩
    cases q : forced (.mtch f k ps) l with
    | none => rfl
    | some x =>
      rcases (forced_m h).mp q with ⟨e1, e2, e3⟩ | ⟨e1, e2, e3⟩
      · rcases h1 with h1 | h1
        · exact absurd e1 h1
        · rw [Bool.eq_false_iff] at h1
          exact absurd (List.contains_iff_mem.mpr (List.mem_map.mpr ⟨_, e3, rfl⟩)) h1
      · rcases h2 with h2 | h2
        · exact absurd e1 h2
        · rw [Bool.eq_false_iff] at h2
          exact absurd (List.contains_iff_mem.mpr (List.mem_map.mpr ⟨_, e3, rfl⟩)) h2
theorem bars_eq {T : Tbl} [Fc T "_law_bars" h_bars] {n : Nat} {g : List GI} {ns : List Nat} (hs : Sz ns) {r : Rule} (h : ROk ns r) {f v : Nat} (hf : f < ns.length) (hv : v < vl ns f) : callN T (n + 1) "_law_bars" [.v (eR r), .v (.int f), .v (.int v)] g = .ret (.v (.bl (refuses r (f, v)))) [.v (eR r), .v (.int f), .v (.int v)] g := by
  refine eq_of (run_in (Fc.at_ : T "_law_bars" = some h_bars) rfl rfl ?_)
  have h5 := hs.le5 f
  cases r with
  | among a es =>
    obtain ⟨h1, h2, h3⟩ := h
    have := notin_of (in_L (a := v) (l := es) (by omega) fun a ha => hs.small (h3 a ha))
    by_cases e : f = a <;> simp [eR, e, this, refuses]
  | eith a b c d => simp [eR, refuses]
  | mtch a b ps =>
    have hp5 := ROk.small hs h
    have e1 : refuses (.mtch a b ps) (f, v) = ((f == a || f == b) && (forced (.mtch a b ps) (f, v)).isNone) := rfl
    rw [forced_none_m h] at e1
    have hab := h.1
    have vp := h.2.2.2.2
    have b1 := hs.le5 a
    have b2 := hs.le5 b
    have n1 := notin_N (l := ps.map (·.1)) (k := v) (by omega) (fun x hx => by
      obtain ⟨p, hp, rfl⟩ := List.mem_map.mp hx
      have := (vp p hp).1
      omega) (y := .d (.lst (nL (ps.map (·.1))))) rfl
    have n2 := notin_N (l := ps.map (·.2)) (k := v) (by omega) (fun x hx => by
      obtain ⟨p, hp, rfl⟩ := List.mem_map.mp hx
      have := (vp p hp).2
      omega) (y := .d (.lst (nL (ps.map (·.2))))) rfl
    have lz : ps.length ≤ line := by unfold line; omega
    by_cases c : f = a
    · subst c
      simp [eR]
      refine lc_map (fun p : Pr => .int p.1) (fun p hp => lcF_ok rfl ?_) ?_
      · simp
      · simp only [nL, List.map_map, Function.comp_def] at n1
        have : f ≠ b := by omega
        rw [e1]
        simp [lz, n1, this]
    · by_cases c2 : f = b
      · subst c2
        simp [eR, c]
        refine lc_map (fun p : Pr => .int p.2) (fun p hp => lcF_ok rfl ?_) ?_
        · simp
        · simp only [nL, List.map_map, Function.comp_def] at n2
          rw [e1]
          simp [lz, n2, c]
      · rw [e1]
        simp [eR, c, c2]
structure GA (ns : List Nat) (B : List Rule) (ls l : List Lit) : Prop where
  nd : l.Nodup
  ok : ∀ x ∈ l, LOk ns x
  re : ∀ x ∈ l, Reach B ls x
  ba : ∀ x ∈ ls, x ∈ l
def DA (B : List Rule) (l : List Lit) (i : Nat) : Prop := ∀ j s r f, j < i → l[j]? = some s → r ∈ B → forced r s = some f → f ∈ l
theorem GA.few {ns : List Nat} (hs : Sz ns) {B : List Rule} {ls l : List Lit} (g : GA ns B ls l) : l.length ≤ 40 := lits_few hs.hi hs.le5 g.nd g.ok
theorem GA.add {ns : List Nat} {B : List Rule} (hB : BOk ns B) {ls l : List Lit} (g : GA ns B ls l) {s x : Lit} {r : Rule} (hr : r ∈ B) (hs : s ∈ l) (hf : forced r s = some x) (hn : x ∉ l) : GA ns B ls (l ++ [x]) := by
  have hx := Reach.step hr (g.re s hs) hf
  refine ⟨?_, fun y hy => ?_, fun y hy => ?_, fun y hy => List.mem_append.mpr (.inl (g.ba y hy))⟩
  · rw [List.nodup_append]
    refine ⟨g.nd, by simp, fun a ha b hb e => ?_⟩
    simp at hb
    subst hb
    subst e
    exact hn ha
  · rcases List.mem_append.mp hy with h | h
    · exact g.ok y h
    · simp at h
      rw [h]
      exact forced_ok (hB r hr) hf
  · rcases List.mem_append.mp hy with h | h
    · exact g.re y h
    · simp at h
      rw [h]
      exact hx
theorem DA.app {B : List Rule} {l : List Lit} {i : Nat} (h : DA B l i) (hi : i ≤ l.length) {x : Lit} : DA B (l ++ [x]) i := fun j s r f hj hs hr hf => by
  rw [List.getElem?_append_left (by omega)] at hs
  exact List.mem_append.mpr (.inl (h j s r f hj hs hr hf))
theorem GA.iff {ns : List Nat} {B : List Rule} {ls l : List Lit} (g : GA ns B ls l) (d : DA B l l.length) (x : Lit) : x ∈ l ↔ Reach B ls x := by
  refine ⟨g.re x, fun h => ?_⟩
  induction h with
  | base h => exact g.ba _ h
  | step hr _ hf ih =>
    obtain ⟨j, hj, e⟩ := List.getElem_of_mem ih
    exact d j _ _ _ hj (by rw [List.getElem?_eq_getElem hj, e]) hr hf
theorem notin_LP {ns : List Nat} (hs : Sz ns) {l : List Lit} {x : Lit} (hx : LOk ns x) (h : ∀ y ∈ l, LOk ns y) {y : DV} (hy : y.lst = some (l.map eP)) : cmpO .NotIn (.v (eP x)) y = some (!l.contains x) := by
  have sm : ∀ y, LOk ns y → y.1 < 10 ^ 12 ∧ y.2 < 10 ^ 12 := fun y h => by
    have := h.lt
    have := hs.le5 y.1
    have := hs.hi
    unfold LOk at h
    omega
  refine notin_of (in_lst (d := 1) (w := 84) rfl hy (gd_P (sm x hx).1 (sm x hx).2) (fun q hq => ?_) (by decide) rfl (fun q hq => ?_) ?_)
  · obtain ⟨a, ha, rfl⟩ := List.mem_map.mp hq
    exact gd_P (sm a (h a ha)).1 (sm a (h a ha)).2
  · obtain ⟨a, ha, rfl⟩ := List.mem_map.mp hq
    rfl
  · simp
def ArA (ns : List Nat) (B : List Rule) (ls : List Lit) (g : List GI) (i : Nat) (s : Lit) (a1 : Option SV) (pre : List Rule) (st : ST) : Prop := ∃ l x5 x4, GA ns B ls l ∧ DA B l i ∧ l[i]? = some s ∧ (∀ r ∈ pre, ∀ f, forced r s = some f → f ∈ l) ∧ st = ⟨[Vv (eB B), a1, Vo (l.map eP), Vv (.int i), x4, x5], g⟩
def ArB (ns : List Nat) (B : List Rule) (ls : List Lit) (g : List GI) (i : Nat) (s : Lit) (done : List Rule) (x4 a1 : Option SV) (pre : List Lit) (st : ST) : Prop := ∃ l x5, GA ns B ls l ∧ DA B l i ∧ l[i]? = some s ∧ (∀ r ∈ done, ∀ f, forced r s = some f → f ∈ l) ∧ (∀ f ∈ pre, f ∈ l) ∧ st = ⟨[Vv (eB B), a1, Vo (l.map eP), Vv (.int i), x4, x5], g⟩
theorem arrive_wp {T : Tbl} [Fc T "_law_arrive" h_arrive] [Fc T "_law_forces" h_forces] {n : Nat} {g : List GI} {q : SV → List SV → List GI → Prop} {e : XV → List SV → List GI → Prop} {ns : List Nat} (hs : Sz ns) {B : List Rule} (hB : BOk ns B) {ls : List Lit} (hls : ∀ l ∈ ls, LOk ns l) (hnd : ls.Nodup)
    (k : ∀ (l : List Lit), l.Nodup → (∀ x ∈ l, LOk ns x) → l.length ≤ 40 → (∀ x, x ∈ l ↔ Reach B ls x) → q (.own (.lst (l.map eP))) [.v (eB B), .own (.lst (ls.map eP))] g) : (callN T (n + 2) "_law_arrive" [.v (eB B), .own (.lst (ls.map eP))] g).wq q e := by
  refine run_in (Fc.at_ : T "_law_arrive" = some h_arrive) rfl rfl ?_
  have few0 := lits_few hs.hi hs.le5 hnd hls
  have hz0 : ls.length ≤ line := by unfold line; omega
  simp [hz0]
  refine whl_wp (fun m st => ∃ i l x4 x5, m + i = 100 ∧ GA ns B ls l ∧ DA B l i ∧ i ≤ l.length ∧ st = ⟨[Vv (eB B), Vo (ls.map eP), Vo (l.map eP), Vv (.int i), x4, x5], g⟩) ?_ (m := 100) ⟨0, ls, _, _, rfl, ⟨hnd, hls, fun x h => .base h, fun x h => h⟩, fun j s r f hj => by omega, Nat.zero_le _, rfl⟩ (by decide)
  rintro m st ⟨i, l, x4, x5, hm, hg, hd, hi, rfl⟩
  have few := hg.few hs
  simp
  by_cases hlt : i < l.length
  · obtain ⟨s, es⟩ : ∃ s, l[i]? = some s := ⟨l[i], by simp [hlt]⟩
    simp [hlt]
    refine for_map (ArA ns B ls g i s (Vo (ls.map eP))) ?_ ⟨l, _, _, hg, hd, es, fun r h => (by cases h), rfl⟩ ?_
    · rintro pre r post st e ⟨l, x5, x4, hg, hd, es, hdn, rfl⟩
      have mr : r ∈ B := by rw [e]; simp
      have ms := List.mem_of_getElem? es
      have lo := hg.ok s ms
      have ix : ixO (.d (.lst (l.map eP))) (.v (.int i)) = some (eP s) := ix_ofl (by rw [List.getElem?_map, es]; rfl)
      simp [ix, forces_eq hs (hB r mr) lo.lt lo]
      refine for_map (ArB ns B ls g i s pre (some (.v (eR r))) (Vo (ls.map eP))) ?_ ⟨l, _, hg, hd, es, hdn, fun f h => (by cases h), rfl⟩ ?_
      · rintro pre2 x post2 st e2 ⟨l, x5, hg, hd, es, hdn, hdx, rfl⟩
        have ms := List.mem_of_getElem? es
        have hx : forced r s = some x := (fL_mem (hB r mr)).mp (by rw [e2]; simp)
        have hi2 := (List.getElem?_eq_some_iff.mp es).1
        have few := hg.few hs
        have hz : l.length < line := by unfold line; omega
        have ni := notin_LP hs (forced_ok (hB r mr) hx) hg.ok (y := .d (.lst (l.map eP))) rfl
        cases q : l.contains x with
        | true =>
          rw [q] at ni
          simp [ni]
          exact ⟨l, _, hg, hd, es, hdn, fun f hf => by
            rcases List.mem_append.mp hf with h | h
            · exact hdx f h
            · simp at h
              rw [h]
              exact List.contains_iff_mem.mp q, rfl⟩
        | false =>
          rw [q] at ni
          simp [ni, hz]
          have hn : x ∉ l := fun h => by
            rw [List.contains_iff_mem.mpr h] at q
            cases q
          refine ⟨l ++ [x], _, hg.add hB mr ms hx hn, hd.app (by omega), by rw [List.getElem?_append_left hi2]; exact es, fun r hr f hf => List.mem_append.mpr (.inl (hdn r hr f hf)), fun f hf => ?_, by simp; rfl⟩
          rcases List.mem_append.mp hf with h | h
          · exact List.mem_append.mpr (.inl (hdx f h))
          · exact List.mem_append.mpr (.inr h)
      · rintro st ⟨l, x5, hg, hd, es, hdn, hdx, rfl⟩
        simp
        refine ⟨l, _, _, hg, hd, es, fun r' hr' f hf => ?_, rfl⟩
        rcases List.mem_append.mp hr' with h | h
        · exact hdn r' h f hf
        · simp at h
          subst h
          exact hdx f ((fL_mem (hB _ mr)).mpr hf)
    · rintro st ⟨l, x5, x4, hg, hd, es, hdn, rfl⟩
      have hi2 := (List.getElem?_eq_some_iff.mp es).1
      simp
      refine ⟨m - 1, by omega, i + 1, by omega, l, hg, fun j s' r f hj hs' hr hf => ?_, by omega, rfl, by simp⟩
      by_cases c : j < i
      · exact hd j s' r f c hs' hr hf
      · have : j = i := by omega
        subst this
        rw [es] at hs'
        cases hs'
        exact hdn r hr f hf
  · have : i = l.length := by omega
    subst this
    simp
    exact k l hg.nd hg.ok few (hg.iff hd)
def tornB (B : List Rule) (l : List Lit) : Bool := !nd (l.map (·.1)) || B.any fun r => l.any fun x => refuses r x
theorem torn_eq {T : Tbl} [Fc T "_law_torn" h_torn] [Fc T "_law_bars" h_bars] {n : Nat} {g : List GI} {ns : List Nat} (hs : Sz ns) {B : List Rule} (hB : BOk ns B) {l : List Lit} (hl : ∀ x ∈ l, LOk ns x) (hlen : l.length ≤ 40) : callN T (n + 2) "_law_torn" [.v (eB B), .own (.lst (l.map eP))] g = .ret (.v (.bl (tornB B l))) [.v (eB B), .v (.lst (l.map eP))] g := by
  refine eq_of (run_in (Fc.at_ : T "_law_torn" = some h_torn) rfl rfl ?_)
  have hz : l.length ≤ line := by unfold line; omega
  simp
  refine lc_map (fun x : Lit => .int x.1) (fun x hx => lcF_ok rfl ?_) ?_
  · simp
  · obtain ⟨k, e1, e2, e3, e4⟩ := lenSet_eq (l := l.map (·.1)) (by simp; omega) (x := .d (.lst (nL (l.map (·.1))))) rfl
    simp only [List.length_map] at e4
    cases q : nd (l.map (·.1)) with
    | false =>
      have : k < l.length := e4.mpr q
      have q' : tornB B l = true := by simp [tornB, q]
      simp only [nL, List.map_map, Function.comp_def] at e1
      simp [hz, e1, this, q']
    | true =>
      have : ¬ k < l.length := fun h => by rw [e4.mp h] at q; cases q
      simp only [nL, List.map_map, Function.comp_def] at e1
      simp [hz, e1, this]
      refine for_map (fun pre st => ∃ x2 x3 x4, (∀ r ∈ pre, ∀ x ∈ l, refuses r x = false) ∧ st = ⟨[Vv (eB B), Vv (.lst (l.map eP)), x2, x3, x4], g⟩) ?_ ⟨_, _, _, fun r h => (by cases h), rfl⟩ ?_
      · rintro pre r post st e ⟨x2, x3, x4, hd, rfl⟩
        have mr : r ∈ B := by rw [e]; simp
        simp
        refine for_map (fun pre2 st => ∃ x2 x3, (∀ x ∈ pre2, refuses r x = false) ∧ st = ⟨[Vv (eB B), Vv (.lst (l.map eP)), x2, x3, some (.v (eR r))], g⟩) ?_ ⟨_, _, fun r h => (by cases h), rfl⟩ ?_
        · rintro pre2 ⟨f, v⟩ post2 st e2 ⟨x2, x3, hd2, rfl⟩
          have mx : (f, v) ∈ l := by rw [e2]; simp
          have lo := hl _ mx
          cases q2 : refuses r (f, v) with
          | true =>
            have q' : tornB B l = true := by
              simp only [tornB, Bool.or_eq_true, List.any_eq_true]
              exact .inr ⟨r, mr, (f, v), mx, q2⟩
            simp [bars_eq hs (hB r mr) lo.lt lo, q2, q']
          | false =>
            simp [bars_eq hs (hB r mr) lo.lt lo, q2]
            intro a b h
            rcases h with h | h
            · exact hd2 _ h
            · rw [h.1, h.2]
              exact q2
        · rintro st ⟨x2, x3, hd2, rfl⟩
          simp
          intro r' hr'
          rcases hr' with h | h
          · exact fun a b hx => hd r' h _ hx
          · subst h
            exact fun a b hx => hd2 _ hx
      · rintro st ⟨x2, x3, x4, hd, rfl⟩
        have q' : tornB B l = false := by
          simp [tornB, q]
          exact fun r hr a b hx => hd r hr _ hx
        simp [q']
theorem torn_clash {ns : List Nat} (hs : Sz ns) {B : List Rule} (hB : BOk ns B) {ls l : List Lit} (hnd : l.Nodup) (hl : ∀ x, x ∈ l ↔ Reach B ls x) : tornB B l = true ↔ Clash B ls := by
  unfold tornB Clash
  simp only [Bool.or_eq_true, List.any_eq_true, Bool.not_eq_true', nd, decide_eq_false_iff_not]
  constructor
  · rintro (h | ⟨r, hr, x, hx, e⟩)
    · right
      rw [List.nodup_iff_pairwise_ne, List.pairwise_map] at h
      by_cases c : ∃ x ∈ l, ∃ y ∈ l, x ≠ y ∧ x.1 = y.1
      · obtain ⟨⟨f, v⟩, hx, ⟨f', w⟩, hy, hne, he⟩ := c
        simp at he
        subst he
        exact ⟨f, v, w, (hl _).mp hx, (hl _).mp hy, fun e => hne (by rw [e])⟩
      · exact absurd (hnd.imp_of_mem fun {a b} ha hb n e => c ⟨a, ha, b, hb, n, e⟩) h
    · exact .inl ⟨x, r, (hl x).mp hx, hr, e⟩
  · rintro (⟨x, r, hx, hr, e⟩ | ⟨f, v, w, h1, h2, hne⟩)
    · exact .inr ⟨r, hr, x, (hl x).mpr hx, e⟩
    · left
      intro h
      have := nodup_inj h ((hl _).mpr h1) ((hl _).mpr h2) rfl
      simp at this
      exact hne this
theorem torn_clashB {ns : List Nat} (hs : Sz ns) {B : List Rule} (hB : BOk ns B) {ls l : List Lit} (hls : ∀ x ∈ ls, LOk ns x) (hnd : l.Nodup) (hl : ∀ x, x ∈ l ↔ Reach B ls x) : tornB B l = clashB B (closure B ls) := by
  rw [Bool.eq_iff_iff, torn_clash hs hB hnd hl, clashB_iff hs.hi hs.le5 hB hls]
theorem lits_nodup (p : List (Option Nat)) : (litsOf p).Nodup := by
  unfold litsOf
  rw [List.nodup_iff_pairwise_ne, List.pairwise_filterMap]
  refine List.pairwise_lt_range.imp fun {a b} h x hx y hy e => ?_
  unfold litAt at hx hy
  obtain ⟨v, _, rfl⟩ := Option.map_eq_some_iff.mp hx
  obtain ⟨w, _, rfl⟩ := Option.map_eq_some_iff.mp hy
  simp at e
  omega
theorem ol_ext {a b : List (Option Nat)} (h : a.length = b.length) (e : ∀ f v, ol a f = some v ↔ ol b f = some v) : a = b := by
  refine List.ext_getElem h fun i h1 h2 => ?_
  have e1 := ol_at h1
  have e2 := ol_at h2
  rw [List.getElem?_eq_getElem h1] at e1
  rw [List.getElem?_eq_getElem h2] at e2
  rw [Option.some.inj e1, Option.some.inj e2]
  exact Option.ext (e i)
theorem ol_set {p : List (Option Nat)} {f v : Nat} {k : Nat} (hf : f < p.length) : ol (p.set f (some v)) k = if k = f then some v else ol p k := by
  unfold ol
  by_cases c : k = f
  · subst c
    simp [hf]
  · rw [List.getElem?_set_ne (fun h => c h.symm), if_neg c]
theorem pw_ne {α : Type} {f : α → Nat} {l : List α} (h : l.Pairwise fun a b => f a ≠ f b) {a b : α} (ha : a ∈ l) (hb : b ∈ l) (n : a ≠ b) : f a ≠ f b := by
  induction l with
  | nil => cases ha
  | cons x r ih =>
    obtain ⟨h1, h2⟩ := List.pairwise_cons.mp h
    rcases List.mem_cons.mp ha with e1 | m1
    · rcases List.mem_cons.mp hb with e2 | m2
      · exact absurd (e1.trans e2.symm) n
      · rw [e1]
        exact h1 _ m2
    · rcases List.mem_cons.mp hb with e2 | m2
      · rw [e2]
        exact (h1 _ m1).symm
      · exact ih h2 m1 m2
theorem partOf_iff {ns : List Nat} {c : List CStep} (hnd : (c.map (·.2.1)).Nodup) (hlt : ∀ s ∈ c, s.2.1 < ns.length) {f v : Nat} : ol (partOf ns c) f = some v ↔ has c (f, v) = true := by
  have e1 : ol (partOf ns c) f = if f < ns.length then enV c f else none := by
    unfold ol partOf
    rw [List.getElem?_map]
    split
    · rename_i h
      simp [h]
    · rename_i h
      simp [h]
  rw [e1]
  constructor
  · intro h
    split at h
    · unfold enV at h
      obtain ⟨s, hs, rfl⟩ := Option.map_eq_some_iff.mp h
      have h1 := List.mem_of_find?_eq_some hs
      have h2 := List.find?_some hs
      simp at h2
      rw [has_iff]
      exact ⟨s.1, by rw [← h2]; exact h1⟩
    · cases h
  · intro h
    obtain ⟨o, ho⟩ := has_iff.mp h
    have hf := hlt _ ho
    simp at hf
    rw [if_pos hf]
    unfold enV
    cases q : c.find? fun s => s.2.1 == f with
    | none =>
      have := List.find?_eq_none.mp q _ ho
      simp at this
    | some t =>
      have h1 := List.mem_of_find?_eq_some q
      have h2 := List.find?_some q
      simp at h2
      have : t = (o, f, v) := by
        by_cases c1 : t = (o, f, v)
        · exact c1
        · rw [List.nodup_iff_pairwise_ne, List.pairwise_map] at hnd
          exact absurd h2 (by
            exact pw_ne (f := fun s : CStep => s.2.1) hnd h1 ho c1)
      rw [this]
      rfl
@[simp] theorem seq_eT {p : List (Option Nat)} : DV.seq (.v (eT p)) = some (p.map eO) := rfl
@[simp] theorem seq_eL {p : List Nat} : DV.seq (.v (eL p)) = some (nL p) := rfl
theorem due_part_eq {T : Tbl} [Fc T "_law_due_part" h_due_part] [Fc T "_law_arrive" h_arrive] [Fc T "_law_forces" h_forces] [Fc T "_law_torn" h_torn] [Fc T "_law_bars" h_bars] {n : Nat} {g : List GI} {ns : List Nat} (hs : Sz ns) {B : List Rule} (hB : BOk ns B) {p : List (Option Nat)} (hp : Pt ns p) : callN T (n + 3) "_law_due_part" [.v (eB B), .v (eT p)] g = .ret (.v (eOT (followedF ns B p))) [.v (eB B), .v (eT p)] g := by
  refine eq_of (run_in (Fc.at_ : T "_law_due_part" = some h_due_part) rfl rfl ?_)
  have h8 := hs.hi
  have hlen := hp.len
  simp [r_0 (n := p.length) (by omega)]
  refine lc_filter (fun k => (ol p k).isSome) (fun (k : Nat) => .tup [.int k, eO (ol p k)]) (fun k hk => lcF_ok rfl ?_) ?_
  · have hk : k < p.length := List.mem_range.mp hk
    cases h : ol p k <;> simp [ix_T hk, h, eO]
  · have hz := List.length_filter_le (fun k => (ol p k).isSome) (List.range p.length)
    rw [lits_map]
    simp at hz
    have hz2 : (litsOf p).length ≤ line := by
      have := congrArg List.length (lits_map p)
      simp at this
      unfold line
      omega
    simp [hz2]
    refine arrive_wp hs hB hp.lok (lits_nodup p) fun l hnd hok hl40 hl => ?_
    have tc := torn_clashB hs hB hp.lok hnd hl
    simp [torn_eq hs hB hok hl40, tc]
    cases q : clashB B (closure B (litsOf p)) with
    | true => simp [followedF, q]
    | false =>
      simp
      have fn : ∀ f v w, (f, v) ∈ l → (f, w) ∈ l → v = w := fun f v w h1 h2 => by
        by_cases c : v = w
        · exact c
        · have : Clash B (litsOf p) := .inr ⟨f, v, w, (hl _).mp h1, (hl _).mp h2, c⟩
          rw [(clashB_iff hs.hi hs.le5 hB hp.lok).mpr this] at q
          cases q
      refine for_map (fun pre st => ∃ d x4 x5, d.length = p.length ∧ (∀ f v, ol d f = some v → (f, v) ∈ l) ∧ (∀ f v, (f, v) ∈ pre → ol d f = some v) ∧ st = ⟨[Vv (eB B), Vv (eT p), Vv (.lst (l.map eP)), Vo (d.map eO), x4, x5, none], g⟩) ?_ ⟨p, _, _, rfl, fun f v h => (hl _).mpr (.base (mem_lits.mpr h)), fun f v h => (by cases h), rfl⟩ ?_
      · rintro pre ⟨f, v⟩ post st e ⟨d, x4, x5, hd, hd1, hd2, rfl⟩
        have mx : (f, v) ∈ l := by rw [e]; simp
        have lo := (hok _ mx).lt
        have hf : f < d.length := by omega
        simp [subO, hf]
        refine ⟨d.set f (some v), by simp [hd], fun a b h => ?_, fun a b h => ?_, by simp [List.map_set]⟩
        · rw [ol_set hf] at h
          split at h
          · rename_i c
            cases h
            rw [c]
            exact mx
          · exact hd1 a b h
        · rw [ol_set hf]
          split
          · rename_i c
            subst c
            rcases h with h | h
            · rw [fn _ _ _ (by rw [e]; simp [h] : (a, b) ∈ l) mx]
            · rw [h.2]
          · rename_i c
            rcases h with h | h
            · exact hd2 a b h
            · exact absurd h.1 c
      · rintro st ⟨d, x4, x5, hd, hd1, hd2, rfl⟩
        have hz8 : d.length ≤ line := by unfold line; omega
        have gd := closure_LOk hs hB hp.lok
        have ed : d = partOf ns (closure B (litsOf p)) := by
          refine ol_ext (by simp [partOf]; omega) fun f v => ?_
          rw [partOf_iff (not_twice q) fun s hs => (gd.ok s hs).lt, closure_iff hs.hi hs.le5 hB hp.lok, ← hl]
          exact ⟨hd1 f v, hd2 f v⟩
        simp [hz8, followedF, q, ← ed, eT]
end Q
end
section
set_option maxHeartbeats 4000000
namespace Q
open PySem Q.M
theorem Pt.bent {ns : List Nat} {p : List (Option Nat)} (h : Pt ns p) {f v : Nat} (hf : f < ns.length) (hv : v < vl ns f) : Pt ns (p.take f ++ (some v :: p.drop (f + 1))) := by
  have hl := h.len
  have e0 : p.take f ++ (some v :: p.drop (f + 1)) = p.set f (some v) := by
    rw [List.set_eq_take_append_cons_drop, if_pos (by omega)]
  rw [e0]
  refine ⟨by simp [hl], fun k u hu => ?_⟩
  rw [ol_set (by omega)] at hu
  split at hu
  · rename_i c
    cases hu
    rw [c]
    exact hv
  · exact h.ok k u hu
theorem app_bentT {p : List (Option Nat)} {f v : Nat} : PV.tup ((p.map eO).take f ++ PV.int v :: (p.map eO).drop (f + 1)) = eT (p.take f ++ (some v :: p.drop (f + 1))) := by
  simp [eT, List.map_take, List.map_drop]
theorem followed_gd {ns : List Nat} (hs : Sz ns) {B : List Rule} (hB : BOk ns B) {p : List (Option Nat)} (hp : Pt ns p) : Gd 1 336 (eOT (followedF ns B p)) := by
  unfold followedF
  cases q : clashB B (closure B (litsOf p)) with
  | true => exact Gd.non.mono (by decide) (by decide)
  | false =>
    have gd := closure_LOk hs hB hp.lok
    have h8 := hs.hi
    simp
    refine (gd_T (l := partOf ns (closure B (litsOf p))) fun f v h => ?_).mono (by decide) (by simp [partOf]; omega)
    rw [partOf_iff (not_twice q) fun s hs => (gd.ok s hs).lt] at h
    obtain ⟨o, ho⟩ := has_iff.mp h
    exact hs.small (gd.ok _ ho)
/-! ### what followed tells -/
theorem foll_none {ns : List Nat} (hs : Sz ns) {B : List Rule} (hB : BOk ns B) {p : List (Option Nat)} (hp : Pt ns p) : followedF ns B p = none ↔ Clash B (litsOf p) := by
  rw [← clashB_iff hs.hi hs.le5 hB hp.lok]
  unfold followedF
  cases clashB B (closure B (litsOf p)) <;> simp
theorem foll_some {ns : List Nat} (hs : Sz ns) {B : List Rule} (hB : BOk ns B) {p t : List (Option Nat)} (hp : Pt ns p) (h : followedF ns B p = some t) : Pt ns t ∧ ∀ f v, ol t f = some v ↔ Reach B (litsOf p) (f, v) := by
  unfold followedF at h
  cases q : clashB B (closure B (litsOf p)) with
  | true => rw [q] at h; simp at h
  | false =>
    rw [q] at h
    simp at h
    subst h
    have gd := closure_LOk hs hB hp.lok
    have e : ∀ f v, ol (partOf ns (closure B (litsOf p))) f = some v ↔ Reach B (litsOf p) (f, v) := fun f v => by
      rw [partOf_iff (not_twice q) fun s hs => (gd.ok s hs).lt, closure_iff hs.hi hs.le5 hB hp.lok]
    exact ⟨⟨by simp [partOf], fun f v hv => reach_ok hB hp.lok ((e f v).mp hv)⟩, e⟩
theorem clash_none {ns : List Nat} (hs : Sz ns) {B : List Rule} (hB : BOk ns B) {l : Lit} (hl : LOk ns l) : clashF B l = none ↔ Alone B l := by
  unfold Alone
  rw [← clashB_iff hs.hi hs.le5 hB (ls := [l]) (fun x hx => by simp at hx; rw [hx]; exact hl)]
  unfold clashF
  cases clashB B (closure B [l]) <;> simp
@[simp] theorem isn_OT {o : Option (List (Option Nat))} : isNone (.v (eOT o)) = o.isNone := by cases o <;> rfl
@[simp] theorem isn_Cl {o : Option (List CStep × Option Nat)} : isNone (.v (eCl o)) = o.isNone := by
  cases o with
  | none => rfl
  | some x => rfl
@[simp] theorem c_neb {a b : Bool} : cmpO .NotEq (.v (.bl a)) (.v (.bl b)) = some (!decide (a = b)) := by cases a <;> cases b <;> rfl
@[simp] theorem c_eqb {a b : Bool} : cmpO .Eq (.v (.bl a)) (.v (.bl b)) = some (decide (a = b)) := by cases a <;> cases b <;> rfl
theorem ne_O {a b : Option Nat} (ha : ∀ v, a = some v → v < 10 ^ 12) (hb : ∀ v, b = some v → v < 10 ^ 12) : cmpO .NotEq (.v (eO a)) (.v (eO b)) = some (!decide (a = b)) :=
  c_diff rfl rfl (gd_O ha) (gd_O hb) (by decide) nb_O nb_O (fun s h => by cases a <;> cases h) (by simp)
/-! fits -/
def fitsAt (a p : List (Option Nat)) (k : Nat) : Bool := match ol p k with | none => true | some v => decide (ol a k = some v)
def fitsB (a p : List (Option Nat)) : Bool := (List.range a.length).all (fitsAt a p)
theorem nil_N {l : List Nat} {x : DV} (h : ∀ a ∈ l, a < 10 ^ 12) (hx : x.lst = some (nL l)) : cmpO .Eq x (.d (.lst [])) = some l.isEmpty := by
  have := nil_eq (d := 0) (w := 41) hx (gd_N h) (by decide) nb_N
  simpa using this
theorem nil_Nn {l : List Nat} {x : DV} (h : ∀ a ∈ l, a < 10 ^ 12) (hx : x.lst = some (nL l)) : cmpO .NotEq x (.d (.lst [])) = some (!l.isEmpty) := by
  have := nil_ne (d := 0) (w := 41) hx (gd_N h) (by decide) nb_N
  simpa using this
theorem nil_rowsn {ns : List Nat} (hs : Sz ns) {l : List (List Nat)} {x : DV} (h : ∀ r ∈ l, Fill ns r) (hx : x.lst = some (l.map eL)) : cmpO .NotEq x (.d (.lst [])) = some (!l.isEmpty) := by
  have := nil_ne (d := 1) (w := 336) hx (fun p hp => by
    obtain ⟨a, ha, rfl⟩ := List.mem_map.mp hp
    exact Fill.gd hs (h a ha)) (by decide) (fun p hp => by
    obtain ⟨a, ha, rfl⟩ := List.mem_map.mp hp
    exact nb_L)
  simpa using this
theorem fits_eq {T : Tbl} [Fc T "_law_fits" h_fits] {n : Nat} {g : List GI} {ns : List Nat} (hs : Sz ns) {a p : List (Option Nat)} (ha : Pt ns a) (hp : Pt ns p) : callN T (n + 1) "_law_fits" [.v (eT a), .v (eT p)] g = .ret (.v (.bl (fitsB a p))) [.v (eT a), .v (eT p)] g := by
  refine eq_of (run_in (Fc.at_ : T "_law_fits" = some h_fits) rfl rfl ?_)
  have h8 := hs.hi
  have hla := ha.len
  have hlp := hp.len
  simp [r_0 (n := a.length) (by omega)]
  refine lc_filter (fun k => !fitsAt a p k) (fun (k : Nat) => .int k) (fun k hk => lcF_ok rfl ?_) ?_
  · have hk : k < a.length := List.mem_range.mp hk
    have j1 := ix_T (l := a) (i := k) hk
    have j2 := ix_T (l := p) (i := k) (by omega)
    have ne := ne_O (a := ol p k) (b := ol a k) (fun v h => hs.small (hp.ok k v h)) (fun v h => hs.small (ha.ok k v h))
    cases q : ol p k with
    | none => simp [j1, j2, q, fitsAt]
    | some v =>
      rw [q] at ne j2
      by_cases c : ol a k = some v
      · rw [c] at ne j1
        simp at ne
        simp [j1, j2, q, fitsAt, c, ne]
      · have c' : ¬ some v = ol a k := fun h => c h.symm
        simp [c'] at ne
        simp [j1, j2, q, fitsAt, c, ne]
  · have hz := List.length_filter_le (fun k => !fitsAt a p k) (List.range a.length)
    simp at hz
    have hz' : ((List.range a.length).filter fun k => !fitsAt a p k).length ≤ line := by unfold line; omega
    have ne := nil_N (l := (List.range a.length).filter fun k => !fitsAt a p k) (fun x hx => by
      have := List.mem_range.mp (List.mem_filter.mp hx).1
      omega) (x := .d (.lst (nL ((List.range a.length).filter fun k => !fitsAt a p k)))) rfl
    have e1 : ((List.range a.length).filter fun k => !fitsAt a p k).isEmpty = fitsB a p := by
      rw [Bool.eq_iff_iff]
      simp [fitsB, List.isEmpty_iff, List.filter_eq_nil_iff]
    rw [e1] at ne
    simp [hz', ne]
theorem fits_iff {a p : List (Option Nat)} (h : p.length = a.length) : fitsB a p = true ↔ ∀ f v, ol p f = some v → ol a f = some v := by
  unfold fitsB
  rw [List.all_eq_true]
  constructor
  · intro h1 f v hv
    have := h1 f (List.mem_range.mpr (by have := ol_lt hv; omega))
    unfold fitsAt at this
    rw [hv] at this
    simpa using this
  · intro h1 k hk
    unfold fitsAt
    cases q : ol p k with
    | none => rfl
    | some v => simpa using h1 k v q
theorem ol_row {row : List Nat} {f v : Nat} (hf : f < row.length) : ol (row.map some) f = some v ↔ vl row f = v := by
  unfold ol
  rw [List.getElem?_map, vl_at hf]
  simp
theorem fits_row {ns row : List Nat} {p : List (Option Nat)} (hr : Fill ns row) (hp : Pt ns p) : fitsB (row.map some) p = true ↔ Agrees (litsOf p) row := by
  have h1 := hr.1
  have h2 := hp.len
  rw [fits_iff (by simp; omega)]
  unfold Agrees
  constructor
  · intro h l hl
    have hv := mem_lits.mp hl
    have := ol_lt hv
    exact (ol_row (by omega)).mp (h _ _ hv)
  · intro h f v hv
    have := ol_lt hv
    exact (ol_row (by omega)).mpr (h (f, v) (mem_lits.mpr hv))
end Q
end
section
set_option maxHeartbeats 4000000
namespace Q
open PySem Q.M
/-! ### other names for fields and values -/
structure Rn (ns ns' : List Nat) (tf : Nat → Nat) (tv : Nat → Nat → Nat) : Prop where
  len : ns'.length = ns.length
  lt : ∀ k, k < ns.length → tf k < ns.length
  inj : ∀ j k, j < ns.length → k < ns.length → tf j = tf k → j = k
  sur : ∀ i, i < ns.length → ∃ k, k < ns.length ∧ tf k = i
  sz : ∀ k, k < ns.length → vl ns' (tf k) = vl ns k
  vlt : ∀ k x, x < vl ns k → tv k x < vl ns k
  vinj : ∀ k x y, x < vl ns k → y < vl ns k → tv k x = tv k y → x = y
def rl (tf : Nat → Nat) (tv : Nat → Nat → Nat) (l : Lit) : Lit := (tf l.1, tv l.1 l.2)
def tab (tv : Nat → Nat → Nat) (f g : Nat) (ps : List (Nat × Nat)) : List (Nat × Nat) := ps.map fun p => (tv f p.1, tv g p.2)
def tabS (tv : Nat → Nat → Nat) (f g : Nat) (ps : List (Nat × Nat)) : List (Nat × Nat) := (tab tv f g ps).map fun p => (p.2, p.1)
def renR (tf : Nat → Nat) (tv : Nat → Nat → Nat) : Rule → Rule
  | .among f es => .among (tf f) (sortN (es.map (tv f)))
  | .mtch f g ps => if tf g < tf f then .mtch (tf g) (tf f) (sortP (tabS tv f g ps)) else .mtch (tf f) (tf g) (sortP (tab tv f g ps))
  | .eith f v g w => if tf g < tf f then .eith (tf g) (tv g w) (tf f) (tv f v) else .eith (tf f) (tv f v) (tf g) (tv g w)
theorem sortP_ok {P : List (Nat × Nat)} (h1 : ∀ p ∈ P, ∀ q ∈ P, p.1 = q.1 → p = q) (h2 : ∀ p ∈ P, ∀ q ∈ P, p.2 = q.2 → p = q) : (sortP P).Pairwise (fun p q => p.1 < q.1) ∧ (sortP P).Pairwise (fun p q => p.2 ≠ q.2) := by
  have asc := sortP_asc P
  have nd := pasc_nodup asc
  constructor
  · refine asc.imp_of_mem fun {p q} hp hq h => ?_
    rcases h with h | ⟨h3, h4⟩
    · exact h
    · have := h1 p (sortP_mem.mp hp) q (sortP_mem.mp hq) h3
      rw [this] at h4
      omega
  · refine asc.imp_of_mem fun {p q} hp hq h e => ?_
    have := h2 p (sortP_mem.mp hp) q (sortP_mem.mp hq) e
    rw [this] at h
    exact pLt_irr q h
variable {ns ns' : List Nat} {tf : Nat → Nat} {tv : Nat → Nat → Nat}
theorem rl_ok (R : Rn ns ns' tf tv) {l : Lit} (h : LOk ns l) : LOk ns' (rl tf tv l) := by
  unfold LOk rl
  rw [R.sz l.1 h.lt]
  exact R.vlt _ _ h
theorem rl_inj (R : Rn ns ns' tf tv) {l m : Lit} (h : LOk ns l) (h2 : LOk ns m) (e : rl tf tv l = rl tf tv m) : l = m := by
  obtain ⟨a, v⟩ := l
  obtain ⟨b, w⟩ := m
  unfold rl at e
  simp only [Prod.mk.injEq] at e
  have := R.inj a b h.lt h2.lt e.1
  subst this
  rw [R.vinj a v w h h2 e.2]
theorem tab_mem {f g : Nat} {ps : List (Nat × Nat)} {x : Nat × Nat} : x ∈ tab tv f g ps ↔ ∃ p ∈ ps, x = (tv f p.1, tv g p.2) := by
  unfold tab
  rw [List.mem_map]
  constructor
  · rintro ⟨p, hp, rfl⟩
    exact ⟨p, hp, rfl⟩
  · rintro ⟨p, hp, rfl⟩
    exact ⟨p, hp, rfl⟩
theorem tabS_mem {f g : Nat} {ps : List (Nat × Nat)} {a b : Nat} : (a, b) ∈ tabS tv f g ps ↔ (b, a) ∈ tab tv f g ps := by
  unfold tabS
  rw [List.mem_map]
  constructor
  · rintro ⟨p, hp, e⟩
    cases e
    exact hp
  · intro h
    exact ⟨_, h, rfl⟩
theorem tab_u (R : Rn ns ns' tf tv) {f g : Nat} {ps : List (Nat × Nat)} (h : ROk ns (.mtch f g ps)) : (∀ p ∈ tab tv f g ps, ∀ q ∈ tab tv f g ps, p.1 = q.1 → p = q) ∧ (∀ p ∈ tab tv f g ps, ∀ q ∈ tab tv f g ps, p.2 = q.2 → p = q) := by
  obtain ⟨_, _, h1, h2, h3⟩ := h
  constructor
  · rintro _ hp _ hq e
    obtain ⟨p, hp2, rfl⟩ := tab_mem.mp hp
    obtain ⟨q, hq2, rfl⟩ := tab_mem.mp hq
    have := R.vinj f _ _ (h3 p hp2).1 (h3 q hq2).1 e
    rw [uniq1 h1 hp2 hq2 this]
  · rintro _ hp _ hq e
    obtain ⟨p, hp2, rfl⟩ := tab_mem.mp hp
    obtain ⟨q, hq2, rfl⟩ := tab_mem.mp hq
    have := R.vinj g _ _ (h3 p hp2).2 (h3 q hq2).2 e
    rw [uniq2 h2 hp2 hq2 this]
theorem ren_ok (R : Rn ns ns' tf tv) {r : Rule} (h : ROk ns r) : ROk ns' (renR tf tv r) := by
  cases r with
  | among f es =>
    obtain ⟨h1, h2, h3⟩ := h
    refine ⟨by rw [R.len]; exact R.lt f h1, sortN_asc _, fun e he => ?_⟩
    obtain ⟨x, hx, rfl⟩ := List.mem_map.mp (sortN_mem.mp he)
    rw [R.sz f h1]
    exact R.vlt f x (h3 x hx)
  | mtch f g ps =>
    obtain ⟨u1, u2⟩ := tab_u R h
    obtain ⟨h1, h2, _, _, h3⟩ := h
    have hf : f < ns.length := by omega
    have ne : tf f ≠ tf g := fun e => by have := R.inj f g hf h2 e; omega
    unfold renR
    dsimp only
    split
    · rename_i c
      have so := sortP_ok (P := tabS tv f g ps) (fun p hp q hq e => by
        have := u2 (p.2, p.1) (tabS_mem.mp hp) (q.2, q.1) (tabS_mem.mp hq) e
        simp only [Prod.mk.injEq] at this
        exact Prod.ext this.2 this.1) (fun p hp q hq e => by
        have := u1 (p.2, p.1) (tabS_mem.mp hp) (q.2, q.1) (tabS_mem.mp hq) e
        simp only [Prod.mk.injEq] at this
        exact Prod.ext this.2 this.1)
      refine ⟨c, by rw [R.len]; exact R.lt f hf, so.1, so.2, fun p hp => ?_⟩
      obtain ⟨x, hx, e⟩ := tab_mem.mp (tabS_mem.mp (sortP_mem.mp hp))
      simp only [Prod.mk.injEq] at e
      rw [R.sz f hf, R.sz g h2, e.1, e.2]
      exact ⟨R.vlt _ _ (h3 x hx).2, R.vlt _ _ (h3 x hx).1⟩
    · rename_i c
      have so := sortP_ok u1 u2
      refine ⟨by omega, by rw [R.len]; exact R.lt g h2, so.1, so.2, fun p hp => ?_⟩
      obtain ⟨x, hx, rfl⟩ := tab_mem.mp (sortP_mem.mp hp)
      rw [R.sz f hf, R.sz g h2]
      exact ⟨R.vlt _ _ (h3 x hx).1, R.vlt _ _ (h3 x hx).2⟩
  | eith f v g w =>
    obtain ⟨h1, h2, h3, h4⟩ := h
    have hf : f < ns.length := by omega
    have ne : tf f ≠ tf g := fun e => by have := R.inj f g hf h2 e; omega
    have a1 := R.vlt _ _ h3
    have a2 := R.vlt _ _ h4
    have b1 := R.lt f hf
    have b2 := R.lt g h2
    have s1 := R.sz f hf
    have s2 := R.sz g h2
    unfold renR
    dsimp only
    split
    · exact ⟨by omega, by rw [R.len]; exact b1, by omega, by omega⟩
    · exact ⟨by omega, by rw [R.len]; exact b2, by omega, by omega⟩
theorem forced_e {f v g w : Nat} (h : f ≠ g) {l m : Lit} : forced (.eith f v g w) l = some m ↔ (l.1 = f ∧ l.2 ≠ v ∧ m = (g, w)) ∨ (l.1 = g ∧ l.2 ≠ w ∧ m = (f, v)) := by
  unfold forced
  dsimp only
  by_cases c1 : l.1 = f ∧ l.2 ≠ v
  · rw [if_pos c1]
    have : ¬ l.1 = g := fun e => h (c1.1.symm.trans e)
    simp [c1, this]
    have : ¬ f = g := h
    simp [this]
    exact eq_comm
  · rw [if_neg c1]
    by_cases c2 : l.1 = g ∧ l.2 ≠ w
    · rw [if_pos c2]
      have : ¬ l.1 = f := fun e => h (e.symm.trans c2.1)
      have h2 : ¬ g = f := fun e => h e.symm
      simp [c2, h2]
      exact eq_comm
    · rw [if_neg c2]
      simp
      constructor
      · intro a b
        exact absurd ⟨a, b⟩ c1
      · intro a b
        exact absurd ⟨a, b⟩ c2
/-- what the renamed rule forces -/
theorem forced_ren (R : Rn ns ns' tf tv) {r : Rule} (h : ROk ns r) {l : Lit} (hl : LOk ns l) {m : Lit} : forced (renR tf tv r) (rl tf tv l) = some m ↔ ∃ l', forced r l = some l' ∧ m = rl tf tv l' := by
  have ok := ren_ok R h
  cases r with
  | among f es => simp [renR, forced]
  | mtch f g ps =>
    obtain ⟨h1, h2, _, _, h3⟩ := id h
    have hf : f < ns.length := by omega
    have key : forced (renR tf tv (.mtch f g ps)) (rl tf tv l) = some m ↔ (tf l.1 = tf f ∧ m.1 = tf g ∧ (tv l.1 l.2, m.2) ∈ tab tv f g ps) ∨ (tf l.1 = tf g ∧ m.1 = tf f ∧ (m.2, tv l.1 l.2) ∈ tab tv f g ps) := by
      unfold renR at ok ⊢
      dsimp only at ok ⊢
      split at ok
      · rename_i c
        rw [if_pos c, forced_m ok]
        simp only [sortP_mem, tabS_mem]
        exact or_comm
      · rename_i c
        rw [if_neg c, forced_m ok]
        simp only [sortP_mem]
        rfl
    rw [key]
    constructor
    · rintro (⟨e1, e2, e3⟩ | ⟨e1, e2, e3⟩)
      · have e1 := R.inj _ _ hl.lt hf e1
        obtain ⟨p, hp, e⟩ := tab_mem.mp e3
        simp only [Prod.mk.injEq] at e
        have hl2 : l.2 < vl ns f := by rw [← e1]; exact hl
        rw [e1] at e
        have e4 := R.vinj f _ _ hl2 (h3 p hp).1 e.1
        refine ⟨(g, p.2), (forced_m h).mpr (.inl ⟨e1, rfl, ?_⟩), Prod.ext e2 e.2⟩
        rw [e4]
        exact hp
      · have e1 := R.inj _ _ hl.lt h2 e1
        obtain ⟨p, hp, e⟩ := tab_mem.mp e3
        simp only [Prod.mk.injEq] at e
        have hl2 : l.2 < vl ns g := by rw [← e1]; exact hl
        rw [e1] at e
        have e4 := R.vinj g _ _ hl2 (h3 p hp).2 e.2
        refine ⟨(f, p.1), (forced_m h).mpr (.inr ⟨e1, rfl, ?_⟩), Prod.ext e2 e.1⟩
        rw [e4]
        exact hp
    · rintro ⟨l', hl', rfl⟩
      rcases (forced_m h).mp hl' with ⟨e1, e2, e3⟩ | ⟨e1, e2, e3⟩
      · refine .inl ⟨by rw [e1], by unfold rl; rw [e2], tab_mem.mpr ⟨_, e3, ?_⟩⟩
        unfold rl
        rw [e1, e2]
      · refine .inr ⟨by rw [e1], by unfold rl; rw [e2], tab_mem.mpr ⟨_, e3, ?_⟩⟩
        unfold rl
        rw [e1, e2]
  | eith f v g w =>
    obtain ⟨h1, h2, h3, h4⟩ := id h
    have hf : f < ns.length := by omega
    have ne : tf f ≠ tf g := fun e => by have := R.inj f g hf h2 e; omega
    have key : forced (renR tf tv (.eith f v g w)) (rl tf tv l) = some m ↔ (tf l.1 = tf f ∧ tv l.1 l.2 ≠ tv f v ∧ m = (tf g, tv g w)) ∨ (tf l.1 = tf g ∧ tv l.1 l.2 ≠ tv g w ∧ m = (tf f, tv f v)) := by
      unfold renR
      dsimp only
      split
      · rw [forced_e (fun e => ne e.symm)]
        exact or_comm
      · rw [forced_e ne]
        rfl
    rw [key]
    constructor
    · rintro (⟨e1, e2, e3⟩ | ⟨e1, e2, e3⟩)
      · have e1 := R.inj _ _ hl.lt hf e1
        refine ⟨(g, w), (forced_e (by omega)).mpr (.inl ⟨e1, fun e => e2 ?_, rfl⟩), e3⟩
        rw [e1, e]
      · have e1 := R.inj _ _ hl.lt h2 e1
        refine ⟨(f, v), (forced_e (by omega)).mpr (.inr ⟨e1, fun e => e2 ?_, rfl⟩), e3⟩
        rw [e1, e]
    · rintro ⟨l', hl', rfl⟩
      rcases (forced_e (by omega)).mp hl' with ⟨e1, e2, rfl⟩ | ⟨e1, e2, rfl⟩
      · refine .inl ⟨by rw [e1], fun e => e2 ?_, rfl⟩
        have hl2 : l.2 < vl ns f := by rw [← e1]; exact hl
        rw [e1] at e
        exact R.vinj f _ _ hl2 h3 e
      · refine .inr ⟨by rw [e1], fun e => e2 ?_, rfl⟩
        have hl2 : l.2 < vl ns g := by rw [← e1]; exact hl
        rw [e1] at e
        exact R.vinj g _ _ hl2 h4 e
theorem forced_none (R : Rn ns ns' tf tv) {r : Rule} (h : ROk ns r) {l : Lit} (hl : LOk ns l) : (forced (renR tf tv r) (rl tf tv l)).isNone = (forced r l).isNone := by
  cases q : forced r l with
  | some l' => rw [(forced_ren R h hl).mpr ⟨l', q, rfl⟩]; rfl
  | none =>
    cases q2 : forced (renR tf tv r) (rl tf tv l) with
    | none => rfl
    | some m =>
      obtain ⟨l', e, _⟩ := (forced_ren R h hl).mp q2
      rw [q] at e
      cases e
theorem refuses_ren (R : Rn ns ns' tf tv) {r : Rule} (h : ROk ns r) {l : Lit} (hl : LOk ns l) : refuses (renR tf tv r) (rl tf tv l) = true ↔ refuses r l = true := by
  cases r with
  | among f es =>
    obtain ⟨h1, h2, h3⟩ := h
    simp only [renR, refuses, Bool.and_eq_true, beq_iff_eq, Bool.not_eq_true', ← Bool.not_eq_true, List.contains_iff_mem, sortN_mem]
    constructor
    · rintro ⟨e1, e2⟩
      have e1 := R.inj _ _ hl.lt h1 e1
      refine ⟨e1, fun hm => e2 (List.mem_map.mpr ⟨l.2, hm, ?_⟩)⟩
      unfold rl
      rw [e1]
    · rintro ⟨e1, e2⟩
      refine ⟨by unfold rl; rw [e1], fun hm => e2 ?_⟩
      obtain ⟨x, hx, e⟩ := List.mem_map.mp hm
      unfold rl at e
      have hl2 : l.2 < vl ns f := by rw [← e1]; exact hl
      rw [e1] at e
      rw [R.vinj f _ _ hl2 (h3 x hx) e.symm]
      exact hx
  | mtch f g ps =>
    have fn := forced_none R h hl
    obtain ⟨h1, h2, _, _, h3⟩ := id h
    have hf : f < ns.length := by omega
    have i1 : tf l.1 = tf f ↔ l.1 = f := ⟨R.inj _ _ hl.lt hf, fun e => by rw [e]⟩
    have i2 : tf l.1 = tf g ↔ l.1 = g := ⟨R.inj _ _ hl.lt h2, fun e => by rw [e]⟩
    have key : refuses (renR tf tv (.mtch f g ps)) (rl tf tv l) = true ↔ (tf l.1 = tf f ∨ tf l.1 = tf g) ∧ (forced (renR tf tv (.mtch f g ps)) (rl tf tv l)).isNone = true := by
      unfold renR
      dsimp only
      split
      · simp only [refuses, Bool.and_eq_true, Bool.or_eq_true, beq_iff_eq]
        rw [or_comm]
        rfl
      · simp only [refuses, Bool.and_eq_true, Bool.or_eq_true, beq_iff_eq]
        rfl
    rw [key, fn, i1, i2]
    simp only [refuses, Bool.and_eq_true, Bool.or_eq_true, beq_iff_eq]
  | eith f v g w =>
    unfold renR
    dsimp only
    split <;> simp [refuses]
end Q
end
section
set_option maxHeartbeats 4000000
namespace Q
open PySem Q.M
variable {ns ns' : List Nat} {tf : Nat → Nat} {tv : Nat → Nat → Nat}
structure Rb (tf : Nat → Nat) (tv : Nat → Nat → Nat) (B B' : List Rule) : Prop where
  back : ∀ r' ∈ B', ∃ r ∈ B, r' = renR tf tv r
  to : ∀ r ∈ B, renR tf tv r ∈ B'
def Rs (tf : Nat → Nat) (tv : Nat → Nat → Nat) (S S' : List Lit) : Prop := ∀ m, m ∈ S' ↔ ∃ l ∈ S, m = rl tf tv l
theorem rb_ok (R : Rn ns ns' tf tv) {B B' : List Rule} (hB : BOk ns B) (b : Rb tf tv B B') : BOk ns' B' := fun r' hr => by
  obtain ⟨r, h, rfl⟩ := b.back r' hr
  exact ren_ok R (hB r h)
theorem rs_ok (R : Rn ns ns' tf tv) {S S' : List Lit} (hS : ∀ l ∈ S, LOk ns l) (s : Rs tf tv S S') : ∀ l ∈ S', LOk ns' l := fun l hl => by
  obtain ⟨x, h, rfl⟩ := (s l).mp hl
  exact rl_ok R (hS x h)
theorem reach_ren (R : Rn ns ns' tf tv) {B B' : List Rule} (hB : BOk ns B) (b : Rb tf tv B B') {S S' : List Lit} (hS : ∀ l ∈ S, LOk ns l) (s : Rs tf tv S S') {m : Lit} : Reach B' S' m ↔ ∃ l, Reach B S l ∧ m = rl tf tv l := by
  constructor
  · intro h
    induction h with
    | base h =>
      obtain ⟨l, hl, rfl⟩ := (s _).mp h
      exact ⟨l, .base hl, rfl⟩
    | step hr _ hf ih =>
      obtain ⟨l, hl, rfl⟩ := ih
      obtain ⟨r, hr2, rfl⟩ := b.back _ hr
      obtain ⟨l', e1, e2⟩ := (forced_ren R (hB r hr2) (reach_ok hB hS hl)).mp hf
      exact ⟨l', .step hr2 hl e1, e2⟩
  · rintro ⟨l, h, rfl⟩
    induction h with
    | base h => exact .base ((s _).mpr ⟨_, h, rfl⟩)
    | step hr hl hf ih => exact .step (b.to _ hr) ih ((forced_ren R (hB _ hr) (reach_ok hB hS hl)).mpr ⟨_, hf, rfl⟩)
theorem clash_ren (R : Rn ns ns' tf tv) {B B' : List Rule} (hB : BOk ns B) (b : Rb tf tv B B') {S S' : List Lit} (hS : ∀ l ∈ S, LOk ns l) (s : Rs tf tv S S') : Clash B' S' ↔ Clash B S := by
  constructor
  · rintro (⟨m, r', h1, h2, h3⟩ | ⟨f, v, w, h1, h2, h3⟩)
    · obtain ⟨l, hl, rfl⟩ := (reach_ren R hB b hS s).mp h1
      obtain ⟨r, hr, rfl⟩ := b.back _ h2
      exact .inl ⟨l, r, hl, hr, (refuses_ren R (hB r hr) (reach_ok hB hS hl)).mp h3⟩
    · obtain ⟨l, hl, e1⟩ := (reach_ren R hB b hS s).mp h1
      obtain ⟨k, hk, e2⟩ := (reach_ren R hB b hS s).mp h2
      have lo := reach_ok hB hS hl
      have ko := reach_ok hB hS hk
      obtain ⟨a, x⟩ := l
      obtain ⟨c, y⟩ := k
      unfold rl at e1 e2
      simp only [Prod.mk.injEq] at e1 e2
      have := R.inj a c lo.lt ko.lt (e1.1.symm.trans e2.1)
      subst this
      exact .inr ⟨a, x, y, hl, hk, fun e => h3 (by rw [e1.2, e2.2, e])⟩
  · rintro (⟨l, r, h1, h2, h3⟩ | ⟨f, v, w, h1, h2, h3⟩)
    · exact .inl ⟨_, _, (reach_ren R hB b hS s).mpr ⟨l, h1, rfl⟩, b.to r h2, (refuses_ren R (hB r h2) (reach_ok hB hS h1)).mpr h3⟩
    · exact .inr ⟨tf f, tv f v, tv f w, (reach_ren R hB b hS s).mpr ⟨_, h1, rfl⟩, (reach_ren R hB b hS s).mpr ⟨_, h2, rfl⟩, fun e => h3 (R.vinj f v w (reach_ok hB hS h1) (reach_ok hB hS h2) e)⟩
theorem alone_ren (R : Rn ns ns' tf tv) {B B' : List Rule} (hB : BOk ns B) (b : Rb tf tv B B') {l : Lit} (hl : LOk ns l) : Alone B' (rl tf tv l) ↔ Alone B l := by
  unfold Alone
  rw [clash_ren R hB b (S := [l]) (S' := [rl tf tv l]) (fun x hx => by simp at hx; rw [hx]; exact hl) (fun m => by simp)]
/-! lists with other places -/
def putL {α : Type} (tf : Nat → Nat) (val : Nat → α) (l : List Nat) (base : List α) : List α := l.foldl (fun acc k => acc.set (tf k) (val k)) base
theorem putL_len {α : Type} {val : Nat → α} : ∀ {l : List Nat} {base : List α}, (putL tf val l base).length = base.length := fun {l} => by
  unfold putL
  induction l with
  | nil => intro base; rfl
  | cons a r ih => intro base; rw [List.foldl_cons, ih, List.length_set]
theorem putL_app {α : Type} {val : Nat → α} {l : List Nat} {k : Nat} {base : List α} : putL tf val (l ++ [k]) base = (putL tf val l base).set (tf k) (val k) := by
  unfold putL
  rw [List.foldl_append]
  rfl
theorem putL_at0 {n : Nat} (hlt : ∀ k, k < n → tf k < n) (hinj : ∀ j k, j < n → k < n → tf j = tf k → j = k) {α : Type} {val : Nat → α} {j : Nat} (hj : j < n) : ∀ {l : List Nat} {base : List α}, (∀ k ∈ l, k < n) → base.length = n → (putL tf val l base)[tf j]? = if j ∈ l then some (val j) else base[tf j]? := fun {l} => by
  unfold putL
  induction l with
  | nil => intro base _ _; simp
  | cons a r ih =>
    intro base h1 h2
    have ha := h1 a (by simp)
    rw [List.foldl_cons, ih (fun k hk => h1 k (by simp [hk])) (by simp [h2])]
    by_cases c : j ∈ r
    · simp [c]
    · by_cases c2 : j = a
      · subst c2
        have := hlt j hj
        simp [c, List.getElem?_set, h2, this]
      · have ne : ¬ tf a = tf j := fun e => c2 (hinj _ _ ha hj e).symm
        simp [c, c2, List.getElem?_set, ne]
theorem putL_at (R : Rn ns ns' tf tv) {α : Type} {val : Nat → α} {j : Nat} (hj : j < ns.length) {l : List Nat} {base : List α} (h1 : ∀ k ∈ l, k < ns.length) (h2 : base.length = ns.length) : (putL tf val l base)[tf j]? = if j ∈ l then some (val j) else base[tf j]? := putL_at0 R.lt R.inj hj h1 h2
def movP (tf : Nat → Nat) (tv : Nat → Nat → Nat) (p : List (Option Nat)) : List (Option Nat) := putL tf (fun k => (ol p k).map (tv k)) (List.range p.length) (List.replicate p.length none)
theorem mov_at (R : Rn ns ns' tf tv) {p : List (Option Nat)} (hp : p.length = ns.length) {j : Nat} (hj : j < ns.length) : ol (movP tf tv p) (tf j) = (ol p j).map (tv j) := by
  unfold movP
  have := putL_at R (val := fun k => (ol p k).map (tv k)) hj (l := List.range p.length) (base := List.replicate p.length none) (fun k hk => by have := List.mem_range.mp hk; omega) (by simp [hp])
  rw [if_pos (List.mem_range.mpr (by omega))] at this
  show ((putL tf _ _ _)[tf j]?).join = _
  rw [this]
  rfl
theorem mov_len {p : List (Option Nat)} : (movP tf tv p).length = p.length := by
  unfold movP
  rw [putL_len, List.length_replicate]
theorem mov_pt (R : Rn ns ns' tf tv) {p : List (Option Nat)} (hp : Pt ns p) : Pt ns' (movP tf tv p) := by
  refine ⟨by rw [mov_len, R.len]; exact hp.len, fun i v h => ?_⟩
  have hi := ol_lt h
  rw [mov_len, hp.len] at hi
  obtain ⟨k, hk, rfl⟩ := R.sur i hi
  rw [mov_at R hp.len hk] at h
  obtain ⟨x, hx, rfl⟩ := Option.map_eq_some_iff.mp h
  rw [R.sz k hk]
  exact R.vlt k x (hp.ok k x hx)
theorem mov_lits (R : Rn ns ns' tf tv) {p : List (Option Nat)} (hp : Pt ns p) : Rs tf tv (litsOf p) (litsOf (movP tf tv p)) := fun m => by
  rw [mem_lits]
  constructor
  · intro h
    have hi := ol_lt h
    rw [mov_len, hp.len] at hi
    obtain ⟨k, hk, e⟩ := R.sur m.1 hi
    rw [← e, mov_at R hp.len hk] at h
    obtain ⟨x, hx, e2⟩ := Option.map_eq_some_iff.mp h
    exact ⟨(k, x), mem_lits.mpr hx, Prod.ext e.symm e2.symm⟩
  · rintro ⟨l, hl, rfl⟩
    have h := mem_lits.mp hl
    have hk := ol_lt h
    rw [hp.len] at hk
    show ol (movP tf tv p) (tf l.1) = some (tv l.1 l.2)
    rw [mov_at R hp.len hk, h]
    rfl
theorem followed_ren (R : Rn ns ns' tf tv) (hs : Sz ns) (hs' : Sz ns') {B B' : List Rule} (hB : BOk ns B) (b : Rb tf tv B B') {p : List (Option Nat)} (hp : Pt ns p) : followedF ns' B' (movP tf tv p) = (followedF ns B p).map (movP tf tv) := by
  have hB' := rb_ok R hB b
  have hp' := mov_pt R hp
  have sl := mov_lits R hp
  have cl := clash_ren R hB b hp.lok sl
  cases q : followedF ns B p with
  | none => exact (foll_none hs' hB' hp').mpr (cl.mpr ((foll_none hs hB hp).mp q))
  | some t =>
    cases q2 : followedF ns' B' (movP tf tv p) with
    | none =>
      have := (foll_none hs hB hp).mpr (cl.mp ((foll_none hs' hB' hp').mp q2))
      rw [q] at this
      cases this
    | some t' =>
      obtain ⟨h1, h2⟩ := foll_some hs hB hp q
      obtain ⟨h3, h4⟩ := foll_some hs' hB' hp' q2
      have e : t' = movP tf tv t := ol_ext (by rw [mov_len, h3.len, h1.len, R.len]) fun i v => by
        have a := mov_lits R h1 (i, v)
        rw [mem_lits] at a
        rw [h4 i v, a, reach_ren R hB b hp.lok sl]
        constructor
        · rintro ⟨l, hl, e⟩
          exact ⟨l, mem_lits.mpr ((h2 l.1 l.2).mpr hl), e⟩
        · rintro ⟨l, hl, e⟩
          exact ⟨l, (h2 l.1 l.2).mp (mem_lits.mp hl), e⟩
      rw [e]
      rfl
theorem clashF_ren (R : Rn ns ns' tf tv) (hs : Sz ns) (hs' : Sz ns') {B B' : List Rule} (hB : BOk ns B) (b : Rb tf tv B B') {l : Lit} (hl : LOk ns l) : (clashF B' (rl tf tv l)).isNone = (clashF B l).isNone := by
  have a := clash_none hs hB hl
  have c := clash_none hs' (rb_ok R hB b) (rl_ok R hl)
  rw [alone_ren R hB b hl, ← a] at c
  cases q : clashF B l with
  | none => rw [c.mpr q]
  | some x =>
    cases q2 : clashF B' (rl tf tv l) with
    | none =>
      have := c.mp q2
      rw [q] at this
      cases this
    | some y => rfl
end Q
end
section
set_option maxHeartbeats 4000000
namespace Q
open PySem Q.M
theorem slT_lo {p : List (Option Nat)} {f : Nat} : slO (.v (eT p)) none (some (f : Int)) = some (.v (.tup ((p.map eO).take f))) := by
  have : slO (.v (eT p)) none (some (f : Int)) = some (.v (.tup (cut (p.map eO) none (some (f : Int))))) := rfl
  rw [this, cut_lo]
theorem slT_hi {p : List (Option Nat)} {f : Nat} : slO (.v (eT p)) (some ((f : Int) + 1)) none = some (.v (.tup ((p.map eO).drop (f + 1)))) := by
  have : slO (.v (eT p)) (some ((f : Int) + 1)) none = some (.v (.tup (cut (p.map eO) (some ((f : Int) + 1)) none))) := rfl
  rw [this, cut_hi1]
theorem setT {p : List (Option Nat)} {f v : Nat} (h : f < p.length) : PV.tup ((p.map eO).take f ++ PV.int v :: (p.map eO).drop (f + 1)) = eT (p.set f (some v)) := by
  rw [app_bentT, List.set_eq_take_append_cons_drop, if_pos h]
theorem addT1 {p : List (Option Nat)} {f : Nat} {x : PV} (h : p.length ≤ 8) : binO .Add (.v (.tup ((p.map eO).take f))) (.v (.tup [x])) = some (.v (.tup ((p.map eO).take f ++ [x]))) := b_addt (by simp [line]; omega)
theorem addT2 {p : List (Option Nat)} {f v : Nat} (h : p.length ≤ 8) (hf : f < p.length) : binO .Add (.v (.tup ((p.map eO).take f ++ [PV.int v]))) (.v (.tup ((p.map eO).drop (f + 1)))) = some (.v (eT (p.set f (some v)))) := by
  rw [b_addt (by simp [line]; omega), List.append_assoc, List.singleton_append, setT hf]
theorem Pt.set {ns : List Nat} {p : List (Option Nat)} (h : Pt ns p) {f v : Nat} (hf : f < ns.length) (hv : v < vl ns f) : Pt ns (p.set f (some v)) := by
  refine ⟨by simp [h.len], fun k u hu => ?_⟩
  rw [ol_set (by rw [h.len]; exact hf)] at hu
  split at hu
  · rename_i c
    cases hu
    rw [c]
    exact hv
  · exact h.ok k u hu
theorem erase_or {L : List Nat} {d x : Nat} (hd : d < L.length) (hx : x ∈ L) (hn : x ∉ L.eraseIdx d) : x = vl L d := by
  rw [List.eraseIdx_eq_take_drop_succ] at hn
  have e : L = L.take d ++ (vl L d :: L.drop (d + 1)) := by
    have hv := vl_at hd
    rw [List.getElem?_eq_getElem hd] at hv
    rw [← Option.some.inj hv, ← List.drop_eq_getElem_cons hd, List.take_append_drop]
  rw [e] at hx
  rcases List.mem_append.mp hx with h | h
  · exact absurd (List.mem_append.mpr (.inl h)) hn
  · rcases List.mem_cons.mp h with h | h
    · exact h
    · exact absurd (List.mem_append.mpr (.inr h)) hn
theorem lits_set {p : List (Option Nat)} {f v : Nat} (hf : f < p.length) {l : Lit} : l ∈ litsOf (p.set f (some v)) ↔ l = (f, v) ∨ (l.1 ≠ f ∧ l ∈ litsOf p) := by
  rw [mem_lits, mem_lits, ol_set hf]
  obtain ⟨a, b⟩ := l
  simp
  split
  · rename_i c
    simp [c]
    exact eq_comm
  · rename_i c
    simp [c]
theorem rep_none {k : Nat} : PV.tup (List.replicate k .non) = eT (List.replicate k none) := by simp [eT]
theorem ol_bare {k f : Nat} : ol (List.replicate k none) f = none := by
  unfold ol
  rw [List.getElem?_replicate]
  split <;> rfl
theorem bare_pt {ns : List Nat} : Pt ns (List.replicate ns.length none) := ⟨by simp, fun f v h => by rw [ol_bare] at h; cases h⟩
theorem bare_lits {k : Nat} : litsOf (List.replicate k none) = [] := by
  rw [List.eq_nil_iff_forall_not_mem]
  intro l hl
  have := mem_lits.mp hl
  rw [ol_bare] at this
  cases this
theorem reach_nil {B : List Rule} {l : Lit} : ¬ Reach B [] l := fun h => by
  induction h with
  | base h => cases h
  | step _ _ _ ih => exact ih
theorem bare_nc {B : List Rule} {k : Nat} : ¬ Clash B (litsOf (List.replicate k none)) := by
  rw [bare_lits]
  rintro (⟨l, r, h, _⟩ | ⟨f, v, w, h, _⟩)
  · exact reach_nil h
  · exact reach_nil h

def holF (mask : List (Option Nat)) (row : List Nat) (k : Nat) : Option Nat := if (ol mask k).isNone then none else some (vl row k)
def hol (ns : List Nat) (mask : List (Option Nat)) (row : List Nat) : List (Option Nat) := (List.range ns.length).map (holF mask row)
theorem hol_pt {ns : List Nat} {mask : List (Option Nat)} {row : List Nat} (hr : Fill ns row) : Pt ns (hol ns mask row) := by
  refine ⟨by simp [hol], fun f v h => ?_⟩
  have hl := ol_lt h
  simp [hol] at hl
  unfold ol hol at h
  rw [List.getElem?_map] at h
  simp [hl, holF] at h
  rw [← h.2]
  exact hr.2 f hl
/-! ### singles and the whole -/
theorem bare_set {k f v : Nat} (hf : f < k) : litsOf ((List.replicate k none).set f (some v)) = [(f, v)] := by
  have h := fun l => lits_set (p := List.replicate k none) (f := f) (v := v) (by simpa using hf) (l := l)
  have nd := lits_nodup ((List.replicate k none).set f (some v))
  rw [bare_lits] at h
  simp at h
  have h2 : ∀ l, l ∈ litsOf ((List.replicate k none).set f (some v)) ↔ l = (f, v) := fun l => by
    obtain ⟨a, b⟩ := l
    simpa using h a b
  generalize litsOf ((List.replicate k none).set f (some v)) = L at nd h2
  match L, nd, h2 with
  | [], _, h2 => exact absurd ((h2 (f, v)).mpr rfl) (by simp)
  | [x], _, h2 => rw [(h2 x).mp (by simp)]
  | x :: y :: r, nd, h2 =>
    have hx := (h2 x).mp (by simp)
    have hy := (h2 y).mp (by simp)
    rw [hx, hy] at nd
    simp at nd
theorem foll_bare {ns : List Nat} (hs : Sz ns) {B : List Rule} (hB : BOk ns B) : followedF ns B (List.replicate ns.length none) = some (List.replicate ns.length none) := by
  cases q : followedF ns B (List.replicate ns.length none) with
  | none => exact absurd ((foll_none hs hB bare_pt).mp q) bare_nc
  | some t =>
    obtain ⟨ht, hte⟩ := foll_some hs hB bare_pt q
    have : t = List.replicate ns.length none := ol_ext (by rw [ht.len]; simp) fun f v => by
      rw [hte, bare_lits, ol_bare]
      exact ⟨fun h => absurd h reach_nil, fun h => by cases h⟩
    rw [this]
theorem foll_again {ns : List Nat} (hs : Sz ns) {B : List Rule} (hB : BOk ns B) {p t : List (Option Nat)} (hp : Pt ns p) (h : followedF ns B p = some t) : followedF ns B t = some t := by
  obtain ⟨ht, hte⟩ := foll_some hs hB hp h
  have hnc : ¬ Clash B (litsOf p) := fun hc => by rw [(foll_none hs hB hp).mpr hc] at h; cases h
  have hR : ∀ l, Reach B (litsOf t) l ↔ Reach B (litsOf p) l := fun l => by
    constructor
    · exact Reach.trans fun x hx => (hte x.1 x.2).mp (mem_lits.mp hx)
    · intro h
      exact .base (mem_lits.mpr ((hte l.1 l.2).mpr h))
  have hnc2 : ¬ Clash B (litsOf t) := by
    rintro (⟨l, r, h1, h2, h3⟩ | ⟨f, v, w, h1, h2, h3⟩)
    · exact hnc (.inl ⟨l, r, (hR l).mp h1, h2, h3⟩)
    · exact hnc (.inr ⟨f, v, w, (hR _).mp h1, (hR _).mp h2, h3⟩)
  cases q : followedF ns B t with
  | none => exact absurd ((foll_none hs hB ht).mp q) hnc2
  | some u =>
    obtain ⟨hu, hue⟩ := foll_some hs hB ht q
    have : u = t := ol_ext (by rw [ht.len, hu.len]) fun f v => by rw [hue, hR, ← hte]
    rw [this]
/-- the union of what singles bring -/
structure Un (ns : List Nat) (B : List Rule) (p d : List (Option Nat)) (torn : Bool) (i : Nat) : Prop where
  pt : Pt ns d
  yes : torn = true → Clash B (litsOf p)
  al : torn = false → ∀ l ∈ litsOf p, l.1 < i → Alone B l
  un : torn = false → ∀ f v, ol d f = some v ↔ ∃ s ∈ litsOf p, s.1 < i ∧ Reach B [s] (f, v)
theorem Un.start {ns : List Nat} {B : List Rule} {p : List (Option Nat)} : Un ns B p (List.replicate ns.length none) false 0 := by
  refine ⟨bare_pt, fun h => (by cases h), fun _ l _ h => by omega, fun _ f v => ?_⟩
  rw [ol_bare]
  constructor
  · intro h
    cases h
  · rintro ⟨s, _, h, _⟩
    omega
theorem Un.skip {ns : List Nat} {B : List Rule} {p d : List (Option Nat)} {torn : Bool} {i : Nat} (h : Un ns B p d torn i) (hn : ol p i = none) : Un ns B p d torn (i + 1) := by
  have key : ∀ l ∈ litsOf p, l.1 < i + 1 ↔ l.1 < i := fun l hl => by
    have := mem_lits.mp hl
    constructor
    · intro h
      by_cases c : l.1 = i
      · rw [c, hn] at this
        cases this
      · omega
    · intro h
      omega
  refine ⟨h.pt, h.yes, fun ht l hl hi => h.al ht l hl ((key l hl).mp hi), fun ht f v => ?_⟩
  rw [h.un ht]
  constructor
  · rintro ⟨s, h1, h2, h3⟩
    exact ⟨s, h1, (key s h1).mpr h2, h3⟩
  · rintro ⟨s, h1, h2, h3⟩
    exact ⟨s, h1, (key s h1).mp h2, h3⟩
theorem Un.torn {ns : List Nat} {B : List Rule} {p d : List (Option Nat)} {torn : Bool} {i v : Nat} (h : Un ns B p d torn i) (hp : ol p i = some v) (hc : Clash B [(i, v)]) : Un ns B p d true (i + 1) :=
  ⟨h.pt, fun _ => clash_mono (fun _ h => h) (fun l hl => by simp at hl; rw [hl]; exact mem_lits.mpr hp) hc, fun h => (by cases h), fun h => (by cases h)⟩
/-- within the fields of one single -/
structure Um (ns : List Nat) (B : List Rule) (p d0 t d : List (Option Nat)) (torn0 torn : Bool) (k : Nat) : Prop where
  pt : Pt ns d
  yes : torn = true → Clash B (litsOf p)
  old : torn = false → torn0 = false
  lo : torn = false → ∀ f, f < k → ol d f = (ol t f).or (ol d0 f) ∧ ∀ v w, ol t f = some v → ol d0 f = some w → v = w
  hi : torn = false → ∀ f, ¬ f < k → ol d f = ol d0 f
theorem Um.start {ns : List Nat} {B : List Rule} {p d t : List (Option Nat)} {torn : Bool} {i : Nat} (h : Un ns B p d torn i) : Um ns B p d t d torn torn 0 :=
  ⟨h.pt, h.yes, fun h => h, fun _ f h => by omega, fun _ f _ => rfl⟩
theorem Um.done {ns : List Nat} {B : List Rule} {p d0 t d : List (Option Nat)} {torn0 torn : Bool} {i v : Nat} (h0 : Un ns B p d0 torn0 i) (h : Um ns B p d0 t d torn0 torn ns.length) (hp : ol p i = some v) (ht : Pt ns t) (hte : ∀ f w, ol t f = some w ↔ Reach B [(i, v)] (f, w)) (hal : Alone B (i, v)) : Un ns B p d torn (i + 1) := by
  refine ⟨h.pt, h.yes, fun e l hl hi => ?_, fun e f w => ?_⟩
  · by_cases c : l.1 = i
    · have := mem_lits.mp hl
      rw [c, hp] at this
      have : l = (i, v) := by
        obtain ⟨a, b⟩ := l
        simp at c this
        rw [c, this]
      rw [this]
      exact hal
    · exact h0.al (h.old e) l hl (by omega)
  · have iff1 : (∃ s ∈ litsOf p, s.1 < i + 1 ∧ Reach B [s] (f, w)) ↔ ol d0 f = some w ∨ ol t f = some w := by
      rw [h0.un (h.old e), hte]
      constructor
      · rintro ⟨s, h1, h2, h3⟩
        by_cases c : s.1 = i
        · right
          have := mem_lits.mp h1
          rw [c, hp] at this
          have : s = (i, v) := by
            obtain ⟨a, b⟩ := s
            simp at c this
            rw [c, this]
          rw [← this]
          exact h3
        · exact .inl ⟨s, h1, by omega, h3⟩
      · rintro (⟨s, h1, h2, h3⟩ | h3)
        · exact ⟨s, h1, by omega, h3⟩
        · exact ⟨(i, v), mem_lits.mpr hp, by simp, h3⟩
    rw [iff1]
    by_cases c : f < ns.length
    · obtain ⟨e1, e2⟩ := h.lo e f c
      rw [e1]
      cases q1 : ol t f with
      | none => simp
      | some a =>
        cases q2 : ol d0 f with
        | none => simp
        | some b =>
          have := e2 a b q1 q2
          subst this
          simp
    · have n1 : ol d f = none := ol_out (by rw [h.pt.len]; exact c)
      have n2 : ol d0 f = none := ol_out (by rw [h0.pt.len]; exact c)
      have n3 : ol t f = none := ol_out (by rw [ht.len]; exact c)
      rw [n1, n2, n3]
      simp
theorem Un.end {ns : List Nat} (hs : Sz ns) {B : List Rule} (hB : BOk ns B) {p d : List (Option Nat)} (hp : Pt ns p) {torn : Bool} (h : Un ns B p d torn ns.length) : followedF ns B p = if torn then none else some d := by
  cases ht : torn with
  | true => simpa using (foll_none hs hB hp).mpr (h.yes ht)
  | false =>
    have all : ∀ l ∈ litsOf p, l.1 < ns.length := fun l hl => (hp.lok l hl).lt
    have nc : ¬ Clash B (litsOf p) := fun hc => by
      obtain ⟨s, h1, t, h2, h3⟩ := clash_two hc
      obtain ⟨f, v, w, a1, a2, a3⟩ := (clash_pair (h.al ht s h1 (all s h1)) (h.al ht t h2 (all t h2))).mp h3
      have b1 := (h.un ht f v).mpr ⟨s, h1, all s h1, a1⟩
      have b2 := (h.un ht f w).mpr ⟨t, h2, all t h2, a2⟩
      rw [b1] at b2
      exact a3 (Option.some.inj b2)
    cases q : followedF ns B p with
    | none => exact absurd ((foll_none hs hB hp).mp q) nc
    | some u =>
      obtain ⟨hu, hue⟩ := foll_some hs hB hp q
      have : u = d := ol_ext (by rw [h.pt.len, hu.len]) fun f v => by
        rw [hue, h.un ht]
        constructor
        · intro hr
          obtain ⟨s, h1, h2⟩ := reach_one hr
          exact ⟨s, h1, all s h1, h2⟩
        · rintro ⟨s, h1, _, h2⟩
          exact reach_of_one h1 h2
      rw [this]
      rfl
end Q
end
section
set_option maxHeartbeats 4000000
namespace Q
open PySem Q.M
def eLL (l : List Nat) : PV := .lst (nL l)
def tsl (TS : List (List Nat)) (k : Nat) : List Nat := TS.getD k []
def tvL (TS : List (List Nat)) (k x : Nat) : Nat := vl (tsl TS k) x
theorem b_repN {p : PV} {k : Nat} (h1 : 1 ≤ k) (h2 : k ≤ 1000) : binO .Mult (.d (.lst [p])) (.v (.int k)) = some (.own (.lst (List.replicate k p))) := by
  have : binO .Mult (.d (.lst [p])) (.v (.int k)) = if (0 : Int) ≤ k ∧ (k : Int) ≤ 1000 ∧ [p].length ≤ 1000 then some (.own (.lst (List.replicate (k : Int).toNat [p]).flatten)) else none := rfl
  rw [this, if_pos ⟨by omega, by omega, by simp⟩, Int.toNat_natCast, flat_one]
structure Tn (ns TO : List Nat) (TS : List (List Nat)) : Prop where
  l1 : TO.length = ns.length
  l2 : TS.length = ns.length
  l3 : ∀ k, k < ns.length → (tsl TS k).length = vl ns k
  p1 : TO.Perm (List.range ns.length)
  p2 : ∀ k, k < ns.length → (tsl TS k).Perm (List.range (vl ns k))
theorem perm_lt {l : List Nat} {n : Nat} (h : l.Perm (List.range n)) {i : Nat} (hi : i < n) : vl l i < n := by
  have hl : l.length = n := by rw [h.length_eq, List.length_range]
  exact List.mem_range.mp (h.mem_iff.mp (vl_mem (by omega)))
theorem perm_inj {l : List Nat} {n : Nat} (h : l.Perm (List.range n)) {i j : Nat} (hi : i < n) (hj : j < n) (e : vl l i = vl l j) : i = j := by
  have hl : l.length = n := by rw [h.length_eq, List.length_range]
  have nd : l.Nodup := h.nodup_iff.mpr List.nodup_range
  have a := vl_at (l := l) (i := i) (by omega)
  have b := vl_at (l := l) (i := j) (by omega)
  rw [List.getElem?_eq_getElem (by omega)] at a b
  have e2 : l[i]'(by omega) = l[j]'(by omega) := by rw [Option.some.inj a, Option.some.inj b, e]
  have pw := List.pairwise_iff_getElem.mp nd
  apply Classical.byContradiction
  intro c
  by_cases c2 : i < j
  · exact pw i j (by omega) (by omega) c2 e2
  · exact pw j i (by omega) (by omega) (by omega) e2.symm
theorem perm_sur {l : List Nat} {n : Nat} (h : l.Perm (List.range n)) {i : Nat} (hi : i < n) : ∃ k, k < n ∧ vl l k = i := by
  have hl : l.length = n := by rw [h.length_eq, List.length_range]
  obtain ⟨k, h1, h2⟩ := mem_vl (h.mem_iff.mpr (List.mem_range.mpr hi))
  exact ⟨k, by omega, h2⟩
theorem tn_rn {ns ns' TO : List Nat} {TS : List (List Nat)} (t : Tn ns TO TS) (hl : ns'.length = ns.length) (hz : ∀ k, k < ns.length → vl ns' (vl TO k) = vl ns k) : Rn ns ns' (vl TO) (tvL TS) where
  len := hl
  lt := fun k hk => perm_lt t.p1 hk
  inj := fun j k hj hk e => perm_inj t.p1 hj hk e
  sur := fun i hi => perm_sur t.p1 hi
  sz := hz
  vlt := fun k x hx => perm_lt (t.p2 k (vl_lt hx)) hx
  vinj := fun k x y hx hy e => perm_inj (t.p2 k (vl_lt hx)) hx hy e
theorem ix_TO {TO : List Nat} {k : Nat} (h : k < TO.length) : ixO (.v (.lst (nL TO))) (.v (.int (k : Nat))) = some (.int (vl TO k)) := ix_ofv (by
  simp only [nL, List.getElem?_map, vl_at h]
  rfl)
theorem ix_TS {TS : List (List Nat)} {k : Nat} (h : k < TS.length) : ixO (.v (.lst (TS.map eLL))) (.v (.int (k : Nat))) = some (eLL (tsl TS k)) := ix_ofv (by
  unfold tsl
  rw [List.getElem?_map, List.getD_eq_getElem?_getD, List.getElem?_eq_getElem h]
  rfl)
theorem ix_tv {TS : List (List Nat)} {k x : Nat} (h : x < (tsl TS k).length) : ixO (.v (eLL (tsl TS k))) (.v (.int (x : Nat))) = some (.int (tvL TS k x)) := ix_TO h
theorem moved_eq {T : Tbl} [Fc T "_law_moved" h_moved] {n : Nat} {g : List GI} {ns TO : List Nat} {TS : List (List Nat)} (hs : Sz ns) (t : Tn ns TO TS) {p : List (Option Nat)} (hp : Pt ns p) : callN T (n + 1) "_law_moved" [.v (eT p), .v (.lst (nL TO)), .v (.lst (TS.map eLL))] g = .ret (.v (eT (movP (vl TO) (tvL TS) p))) [.v (eT p), .v (.lst (nL TO)), .v (.lst (TS.map eLL))] g := by
  refine eq_of (run_in (Fc.at_ : T "_law_moved" = some h_moved) rfl rfl ?_)
  have h8 := hs.hi
  have h1 := hs.lo
  have pl := hp.len
  have t1 := t.l1
  have t2 := t.l2
  have br := b_repN (p := .non) (k := p.length) (by omega) (by omega)
  have eb : List.replicate p.length PV.non = (List.replicate p.length none).map eO := by simp
  rw [eb] at br
  simp [br, r_0 (n := p.length) (by omega)]
  refine for_map (fun pre st => ∃ x4, st = ⟨[Vv (eT p), Vv (.lst (nL TO)), Vv (.lst (TS.map eLL)), Vo ((putL (vl TO) (fun k => (ol p k).map (tvL TS k)) pre (List.replicate p.length none)).map eO), x4], g⟩) ?_ ⟨none, by simp [putL]⟩ ?_
  · rintro pre k post st e ⟨x4, rfl⟩
    obtain ⟨r1, r2, _⟩ := range_pre e
    have hk : k < ns.length := by omega
    have sl := putL_len (tf := vl TO) (val := fun k => (ol p k).map (tvL TS k)) (l := pre) (base := List.replicate p.length none)
    have es := congrArg (List.map eO) (putL_app (tf := vl TO) (val := fun k => (ol p k).map (tvL TS k)) (l := pre) (k := k) (base := List.replicate p.length none))
    rw [List.map_set] at es
    have tl := perm_lt t.p1 hk
    simp only [List.length_replicate] at sl
    generalize putL (vl TO) (fun k => (ol p k).map (tvL TS k)) (pre ++ [k]) (List.replicate p.length none) = Y at es
    generalize putL (vl TO) (fun k => (ol p k).map (tvL TS k)) pre (List.replicate p.length none) = X at sl es
    have xl : (X.map eO).length = p.length := by simp [sl]
    have it := ix_T (l := p) (i := k) (by omega)
    have i2 := ix_TO (TO := TO) (k := k) (by omega)
    have i3 := ix_TS (TS := TS) (k := k) (by omega)
    cases q : ol p k with
    | none =>
      rw [q] at it es
      simp at es
      simp [it, i2, subO, sl, tl, pl, es]
    | some x =>
      rw [q] at it es
      simp at es
      have hx : x < vl ns k := hp.ok k x q
      have i4 := ix_tv (TS := TS) (k := k) (x := x) (by rw [t.l3 k hk]; exact hx)
      simp [it, i2, i3, i4, subO, sl, tl, pl, es]
  · rintro st ⟨x4, rfl⟩
    have sl := putL_len (tf := vl TO) (val := fun k => (ol p k).map (tvL TS k)) (l := List.range p.length) (base := List.replicate p.length none)
    have em : putL (vl TO) (fun k => (ol p k).map (tvL TS k)) (List.range p.length) (List.replicate p.length none) = movP (vl TO) (tvL TS) p := rfl
    rw [em] at sl ⊢
    simp only [List.length_replicate] at sl
    have zl : (movP (vl TO) (tvL TS) p).length ≤ line := by unfold line; omega
    simp [zl, eT]
theorem sortP_line {P : List (Nat × Nat)} (h : ∀ p ∈ P, p.1 < 64 ∧ p.2 < 64) : (sortP P).length ≤ line := by
  have := asc_len (l := (sortP P).map fun p => 64 * p.1 + p.2) (List.Pairwise.map (R := fun a b => pLt a b ∧ a.2 < 64 ∧ b.2 < 64) _ (fun a b h => by
    obtain ⟨h1, h2, h3⟩ := h
    unfold pLt at h1
    omega) ((sortP_asc P).imp_of_mem fun {a b} ha hb hab => ⟨hab, (h a (sortP_mem.mp ha)).2, (h b (sortP_mem.mp hb)).2⟩)) (s := 4096) (fun e he => by
    obtain ⟨x, hx, rfl⟩ := List.mem_map.mp he
    have := h x (sortP_mem.mp hx)
    omega)
  simp at this
  unfold line
  omega
theorem rename_eq {T : Tbl} [Fc T "_law_rename" h_rename] {n : Nat} {g : List GI} {ns TO : List Nat} {TS : List (List Nat)} (hs : Sz ns) (t : Tn ns TO TS) {r : Rule} (h : ROk ns r) : callN T (n + 1) "_law_rename" [.v (eR r), .v (.lst (nL TO)), .v (.lst (TS.map eLL))] g = .ret (.v (eR (renR (vl TO) (tvL TS) r))) [.v (eR r), .v (.lst (nL TO)), .v (.lst (TS.map eLL))] g := by
  refine eq_of (run_in (Fc.at_ : T "_law_rename" = some h_rename) rfl rfl ?_)
  have h8 := hs.hi
  have t1 := t.l1
  have t2 := t.l2
  have sm : ∀ k x, x < vl ns k → tvL TS k x < 64 := fun k x hx => by
    have := perm_lt (t.p2 k (vl_lt hx)) hx
    have h5 := hs.le5 k
    unfold tvL
    omega
  have it : ∀ k x, k < ns.length → x < vl ns k → ixO (.v (eLL (tsl TS k))) (.v (.int (x : Nat))) = some (.int (tvL TS k x)) := fun k x hk hx => ix_tv (by rw [t.l3 k hk]; exact hx)
  have ia : ∀ k, k < ns.length → ixO (.v (.lst (nL TO))) (.v (.int (k : Nat))) = some (.int (vl TO k)) := fun k hk => ix_TO (by omega)
  have ib : ∀ k, k < ns.length → ixO (.v (.lst (TS.map eLL))) (.v (.int (k : Nat))) = some (eLL (tsl TS k)) := fun k hk => ix_TS (by omega)
  cases r with
  | among f es =>
    obtain ⟨h1, h2, h3⟩ := h
    have el := asc_len h2 h3
    have h5 := hs.le5 f
    have eL' : eL es = .tup (nL es) := rfl
    simp [eR, ia f h1, ib f h1]
    refine lc_map (fun x => .int (tvL TS f x)) (fun x hx => lcF_ok rfl ?_) ?_
    · simp [ib f h1, it f x h1 (h3 x hx)]
    · have so := sorted_N (l := es.map (tvL TS f)) (by simp; omega) (x := .d (.lst (nL (es.map (tvL TS f))))) rfl
      have en : (es.map fun x => PV.int (tvL TS f x)) = nL (es.map (tvL TS f)) := by simp [nL]
      have zn : es.length ≤ line := by unfold line; omega
      have zs : (sortN (es.map (tvL TS f))).length ≤ line := by
        have := asc_len (sortN_asc (es.map (tvL TS f))) (s := 64) (fun e he => by
          obtain ⟨x, hx, rfl⟩ := List.mem_map.mp (sortN_mem.mp he)
          exact sm f x (h3 x hx))
        unfold line
        omega
      rw [en]
      have zn' : (nL (es.map (tvL TS f))).length ≤ line := by simpa [nL] using zn
      have zs' : (nL (sortN (es.map (tvL TS f)))).length ≤ line := by simpa [nL] using zs
      refine ⟨zn', ?_⟩
      have er : eR (renR (vl TO) (tvL TS) (.among f es)) = .tup [.str "among", .int (vl TO f), .tup (nL (sortN (es.map (tvL TS f))))] := rfl
      have er' : eR (.among f es) = .tup [.str "among", .int f, eL es] := rfl
      generalize nL (sortN (es.map (tvL TS f))) = Y at so zs' er
      generalize nL (es.map (tvL TS f)) = X at so
      simp [so, zs', er, eR]
      exact er.symm
  | mtch f k ps =>
    obtain ⟨h1, h2, h3, h4, h5⟩ := h
    have hf : f < ns.length := by omega
    have pl : ps.length ≤ 5 := by
      have := asc_len (l := ps.map (·.1)) (List.Pairwise.map _ (fun _ _ h => h) h3) (s := vl ns f) (fun e he => by
        obtain ⟨x, hx, rfl⟩ := List.mem_map.mp he
        exact (h5 x hx).1)
      have := hs.le5 f
      simp at this ⊢
      simp at *
      omega
    have tl : (tab (tvL TS) f k ps).length = ps.length := by simp [tab]
    have tsm : ∀ p ∈ tab (tvL TS) f k ps, p.1 < 64 ∧ p.2 < 64 := fun p hp => by
      obtain ⟨x, hx, rfl⟩ := tab_mem.mp hp
      exact ⟨sm _ _ (h5 x hx).1, sm _ _ (h5 x hx).2⟩
    simp [eR, ia f hf, ia k h2]
    refine lc_map (fun p => eP (tvL TS f p.1, tvL TS k p.2)) (fun p hp => lcF_ok rfl ?_) ?_
    · simp [ib f hf, ib k h2, it f _ hf (h5 p hp).1, it k _ h2 (h5 p hp).2]
    · have zt : (tab (tvL TS) f k ps).length ≤ line := by unfold line; omega
      have en : (ps.map fun p => eP (tvL TS f p.1, tvL TS k p.2)) = (tab (tvL TS) f k ps).map eP := by simp [tab]
      rw [en]
      refine ⟨by simpa using zt, ?_⟩
      by_cases c : vl TO k < vl TO f
      · simp [c, ia f hf, ia k h2]
        refine lc_map (fun p => eP (p.2, p.1)) (fun p hp => lcF_ok rfl ?_) ?_
        · simp
        · have en2 : ((tab (tvL TS) f k ps).map fun p => eP (p.2, p.1)) = (tabS (tvL TS) f k ps).map eP := by simp [tabS]
          rw [en2]
          have sl : (tabS (tvL TS) f k ps).length = ps.length := by simp [tabS, tab]
          have ssm : ∀ p ∈ tabS (tvL TS) f k ps, p.1 < 64 ∧ p.2 < 64 := fun p hp => (tsm (p.2, p.1) (tabS_mem.mp hp)).symm
          have so := sorted_P (l := tabS (tvL TS) f k ps) (by omega) ssm (x := .d (.lst ((tabS (tvL TS) f k ps).map eP))) rfl
          have zs := sortP_line ssm
          have zs' : ((sortP (tabS (tvL TS) f k ps)).map eP).length ≤ line := by simpa using zs
          have er : eR (renR (vl TO) (tvL TS) (.mtch f k ps)) = .tup [.str "match", .int (vl TO k), .int (vl TO f), .tup ((sortP (tabS (tvL TS) f k ps)).map eP)] := by
            unfold renR
            dsimp only
            rw [if_pos c]
            rfl
          have zl : ((tabS (tvL TS) f k ps).map eP).length ≤ line := by simp [sl]; unfold line; omega
          refine ⟨zl, ?_⟩
          generalize (sortP (tabS (tvL TS) f k ps)).map eP = Y at so zs' er
          generalize (tabS (tvL TS) f k ps).map eP = X at so
          simp [so, zs', er, eR]
          exact er.symm
      · have so := sorted_P (l := tab (tvL TS) f k ps) (by omega) tsm (x := .d (.lst ((tab (tvL TS) f k ps).map eP))) rfl
        have zs := sortP_line tsm
        have zs' : ((sortP (tab (tvL TS) f k ps)).map eP).length ≤ line := by simpa using zs
        have er : eR (renR (vl TO) (tvL TS) (.mtch f k ps)) = .tup [.str "match", .int (vl TO f), .int (vl TO k), .tup ((sortP (tab (tvL TS) f k ps)).map eP)] := by
          unfold renR
          dsimp only
          rw [if_neg c]
          rfl
        generalize (sortP (tab (tvL TS) f k ps)).map eP = Y at so zs' er
        generalize (tab (tvL TS) f k ps).map eP = X at so
        simp [c, ia f hf, ia k h2, so, zs', er, eR]
        exact er.symm
  | eith f v k w =>
    obtain ⟨h1, h2, h3, h4⟩ := h
    have hf : f < ns.length := by omega
    by_cases c : vl TO k < vl TO f
    · simp [eR, ia f hf, ia k h2, ib f hf, ib k h2, it f v hf h3, it k w h2 h4, c, renR]
    · simp [eR, ia f hf, ia k h2, ib f hf, ib k h2, it f v hf h3, it k w h2 h4, c, renR]
/-- a drawn sequence -/
def ShI (many m : Nat) (ns0 : Nat) (g : List GI) (j : Nat) (st : ST) : Prop := ∃ (L F : List Nat) (ys : List PV), (L ++ F).Perm (List.range many) ∧ L.length = j ∧ BagOk (m + (many - j)) ys ∧ st = ⟨[Vo ys, Vv (.int many), Vo (nL L), Vo (nL F), none], g⟩
theorem shuffle_wp {T : Tbl} [Fc T "_law_shuffle" h_shuffle] [Fc T "_law_take" h_take] {n : Nat} {g : List GI} {q : SV → List SV → List GI → Prop} {e : XV → List SV → List GI → Prop} {m many : Nat} {xs : List PV} (h8 : many ≤ 100) (hb : BagOk m xs) (hm : m ≤ 700000)
    (k : ∀ F xs', F.Perm (List.range many) → BagOk (m + many) xs' → q (.own (.lst (nL F))) [.own (.lst xs'), .v (.int many)] g) : (callN T (n + 2) "_law_shuffle" [.own (.lst xs), .v (.int many)] g).wq q e := by
  refine run_in (Fc.at_ : T "_law_shuffle" = some h_shuffle) rfl rfl ?_
  simp [r_0 (n := many) (by omega)]
  refine lc_map (fun (i : Nat) => .int i) (fun i hi => lcF_ok rfl ?_) ?_
  · simp
  · have zl : (List.range many).length ≤ line := by unfold line; simp; omega
    have en : ((List.range many).map fun (i : Nat) => PV.int i) = nL (List.range many) := rfl
    rw [en]
    refine ⟨by simpa [nL] using zl, ?_⟩
    simp
    refine whl_wp (ShI many m 0 g) ?_ (m := many) ⟨List.range many, [], xs, by simp, by simp, by simpa using hb, rfl⟩ (by unfold whileFuel; omega)
    rintro j st ⟨L, F, ys, hp, hL, hy, rfl⟩
    have lt : ∀ x ∈ L ++ F, x < many := fun x hx => List.mem_range.mp (hp.mem_iff.mp hx)
    have len : L.length + F.length = many := by
      have := hp.length_eq
      simpa using this
    have n1 := nil_Nn (l := L) (fun x hx => by have := lt x (by simp [hx]); omega) (x := .d (.lst (nL L))) rfl
    cases q : L.isEmpty with
    | true =>
      rw [q] at n1
      have hLe : L = [] := List.isEmpty_iff.mp q
      subst hLe
      simp at hp hL
      subst hL
      have hnil : cmpO .NotEq (.d (.lst [])) (.d (.lst [])) = some false := rfl
      simp [hnil]
      exact k F ys hp (by simpa using hy)
    | false =>
      rw [q] at n1
      have hL0 : 0 < L.length := by cases L with | nil => cases q | cons _ _ => simp
      have lL : bltO .len [.d (.lst (nL L))] = some (.v (.int L.length)) := by simp [nL]
      simp [n1, lL]
      refine take_wp (many := L.length) hL0 (by omega) hy (by omega) fun d ys1 hd hy1 => ?_
      have zF : (nL F).length < line := by simp [nL]; unfold line; omega
      obtain ⟨W, hW⟩ : ∃ W, W = nL (F ++ [vl L d]) := ⟨_, rfl⟩
      have ma : mutO .append (nL F) [.int (vl L d)] = some (.non, W) := by
        have : mutO .append (nL F) [.int (vl L d)] = if (nL F).length < line then some (.non, nL F ++ [.int (vl L d)]) else none := rfl
        rw [this, if_pos zF, hW]
        simp [nL]
      simp [pop_N hd, ma]
      refine ⟨j - 1, by omega, L.eraseIdx d, F ++ [vl L d], ys1, ?_, by rw [List.length_eraseIdx]; simp [hd]; omega, hy1.up (by omega), by rw [hW]⟩
      have pe : (vl L d :: L.eraseIdx d).Perm L := by
        have hv := vl_at hd
        rw [List.getElem?_eq_getElem hd] at hv
        have e2 : L = L.take d ++ (vl L d :: L.drop (d + 1)) := by
          rw [← Option.some.inj hv, ← List.drop_eq_getElem_cons hd, List.take_append_drop]
        rw [List.eraseIdx_eq_take_drop_succ]
        generalize vl L d = x at e2
        generalize L.take d = A at e2
        generalize L.drop (d + 1) = C at e2
        rw [e2]
        exact List.perm_middle.symm
      refine List.Perm.trans ?_ hp
      refine List.Perm.trans ?_ (pe.append_right F)
      rw [← List.append_assoc]
      refine (List.perm_append_comm).trans ?_
      simp
end Q
end
section
namespace Q
def law_k14 : Fn := ⟨19, 1, [], .cons (.for_ (.v 1) (.seq (.bin .Add (.lst (.cons (.bin .Add (.bin .Mult (.c (.int 29)) (.bin .Pow (.c (.int 10)) (.c (.int 61)))) (.c (.int 282842))) .nil)) (.sl (.var 0) .no (.yes (.c (.int 3)))))) (.cons (.asg (.v 2) (.call "_law_pouch" (.cons (.var 1) .nil))) (.cons (.asg (.v 3) (.call "_law_draw_sizes" (.cons (.var 2) (.cons (.c (.int 8)) (.cons (.c (.int 5)) .nil))))) (.cons (.asg (.v 4) (.call "_law_draw_kept" (.cons (.var 2) (.cons (.var 3) (.cons (.lst (.cons (.call "_law_draw_row" (.cons (.var 2) (.cons (.var 3) .nil))) (.cons (.call "_law_draw_row" (.cons (.var 2) (.cons (.var 3) .nil))) .nil))) (.cons (.c (.int 9)) .nil)))))) (.cons (.ife (.e (.cmp .Eq (.call "_law_take" (.cons (.var 2) (.cons (.c (.int 3)) .nil))) (.c (.int 0)))) (.cons (.asg (.v 4) (.call "_law_draw_clauses" (.cons (.var 2) (.cons (.var 3) (.cons (.c (.int 9)) .nil))))) .nil) .nil) (.cons (.asg (.t [5, 6]) (.tup (.cons (.call "_law_shuffle" (.cons (.var 2) (.cons (.blt .len (.cons (.var 3) .nil)) .nil))) (.cons (.lc [18] (.v 18) (.seq (.var 3)) .tt (.call "_law_shuffle" (.cons (.var 2) (.cons (.var 18) .nil)))) .nil)))) (.cons (.asg (.v 7) (.bin .Mult (.lst (.cons (.c (.int 0)) .nil)) (.blt .len (.cons (.var 3) .nil)))) (.cons (.for_ (.v 8) (.rng1 (.blt .len (.cons (.var 3) .nil))) (.cons (.sub 7 (.idx (.var 5) (.var 8)) (.idx (.var 3) (.var 8))) .nil)) (.cons (.asg (.v 9) (.call "_law_shuffle" (.cons (.var 2) (.cons (.blt .len (.cons (.var 4) .nil)) .nil)))) (.cons (.asg (.v 9) (.bin .Add (.var 9) (.sl (.var 9) .no (.yes (.call "_law_take" (.cons (.var 2) (.cons (.c (.int 3)) .nil))))))) (.cons (.asg (.v 10) (.blt .tuple (.cons (.lc [8] (.v 8) (.seq (.var 9)) .tt (.call "_law_rename" (.cons (.idx (.var 4) (.var 8)) (.cons (.var 5) (.cons (.var 6) .nil))))) .nil))) (.cons (.for_ (.v 11) (.rng1 (.c (.int 2))) (.cons (.asg (.v 12) (.call "_law_draw_partial" (.cons (.var 2) (.cons (.var 3) .nil)))) (.cons (.asg (.v 13) (.call "followed" (.cons (.var 3) (.cons (.var 4) (.cons (.var 12) .nil))))) (.cons (.asg (.v 14) (.ifx (.e (.cmp .Is (.var 13) (.c .non))) (.c .non) (.call "_law_moved" (.cons (.var 13) (.cons (.var 5) (.cons (.var 6) .nil)))))) (.cons (.ife (.e (.cmp .NotEq (.blt .repr (.cons (.call "followed" (.cons (.blt .tuple (.cons (.var 7) .nil)) (.cons (.var 10) (.cons (.call "_law_moved" (.cons (.var 12) (.cons (.var 5) (.cons (.var 6) .nil)))) .nil)))) .nil)) (.blt .repr (.cons (.var 14) .nil)))) (.cons (.ret (.c (.bl false))) .nil) .nil) (.cons (.asg (.v 15) (.call "_law_take" (.cons (.var 2) (.cons (.blt .len (.cons (.var 3) .nil)) .nil)))) (.cons (.asg (.v 16) (.call "_law_take" (.cons (.var 2) (.cons (.idx (.var 3) (.var 15)) .nil)))) (.cons (.asg (.v 17) (.lst (.cons (.call "clash" (.cons (.var 3) (.cons (.var 4) (.cons (.var 15) (.cons (.var 16) .nil))))) (.cons (.call "clash" (.cons (.blt .tuple (.cons (.var 7) .nil)) (.cons (.var 10) (.cons (.idx (.var 5) (.var 15)) (.cons (.idx (.idx (.var 6) (.var 15)) (.var 16)) .nil))))) .nil)))) (.cons (.ife (.e (.cmp .NotEq (.cmp .Is (.idx (.var 17) (.c (.int 0))) (.c .non)) (.cmp .Is (.idx (.var 17) (.c (.int 1))) (.c .non)))) (.cons (.ret (.c (.bl false))) .nil) .nil) .nil))))))))) .nil)))))))))))) (.cons (.ret (.c (.bl true))) .nil)⟩
end Q
end
section
set_option maxHeartbeats 4000000
namespace Q
open PySem Q.M
def K14 (ss : List Int) (g : List GI) (st : ST) : Prop := ∃ a1 a2 a3 a4 a5 a6 a7 a8 a9 a10 a11 a12 a13 a14 a15 a16 a17, st = ⟨[Vv (.scr ss), a1, a2, a3, a4, a5, a6, a7, a8, a9, a10, a11, a12, a13, a14, a15, a16, a17, none], g⟩
def K14t (ss : List Int) (ns : List Nat) (B : List Rule) (TO : List Nat) (TS : List (List Nat)) (ns' : List Nat) (B' : List Rule) (a1 a8 a9 : Option SV) (m : Nat) (g : List GI) (pre : List Nat) (st : ST) : Prop := ∃ (ys : List PV) (a11 a12 a13 a14 a15 a16 a17 : Option SV), BagOk (m + 30 * pre.length) ys ∧ st = ⟨[Vv (.scr ss), a1, Vo ys, Vv (eL ns), Vv (eB B), Vv (.lst (nL TO)), Vv (.lst (TS.map eLL)), Vo (nL ns'), a8, a9, Vv (eB B'), a11, a12, a13, a14, a15, a16, a17, none], g⟩
theorem gd_OT {ns : List Nat} (hs : Sz ns) {o : Option (List (Option Nat))} (h : ∀ t, o = some t → Pt ns t) : Gd 1 400 (eOT o) := by
  cases o with
  | none => exact Gd.non.mono (by decide) (by decide)
  | some t =>
    have p := h t rfl
    have pl := p.len
    have h8 := hs.hi
    refine (gd_T (l := t) fun f v hv => hs.small (p.ok f v hv)).mono (Nat.le_refl _) (by omega)
theorem k14_tests {T : Tbl} [Fc T "law" law_k14] [Fc T "_law_pouch" h_pouch] [Fc T "_law_draw_sizes" h_draw_sizes] [Fc T "_law_take" h_take] [Fc T "_law_draw_kept" h_draw_kept] [Fc T "_law_widen" h_widen] [Fc T "_law_named_pair" h_named_pair] [Fc T "_law_test" h_test] [Fc T "_law_one_to_one" h_one_to_one] [Fc T "_law_draw_clause" h_draw_clause] [Fc T "_law_draw_table" h_draw_table] [Fc T "_law_draw_row" h_draw_row] [Fc T "_law_draw_clauses" h_draw_clauses] [Fc T "_law_shuffle" h_shuffle] [Fc T "_law_rename" h_rename] [Fc T "_law_draw_partial" h_draw_partial] [Fc T "followed" p_followed] [Fc T "need_sheet" p_need_sheet] [Fc T "is_sheet" p_is_sheet] [Fc T "is_between" p_is_between] [Fc T "need_book" p_need_book] [Fc T "is_book_of" p_is_book_of] [Fc T "is_rule_of" p_is_rule_of] [Fc T "are_entries" p_are_entries] [Fc T "is_rising" p_is_rising] [Fc T "are_two_fields" p_are_two_fields] [Fc T "are_partners" p_are_partners] [Fc T "is_pair" p_is_pair] [Fc T "need_part" p_need_part] [Fc T "is_part_of" p_is_part_of] [Fc T "closure" p_closure] [Fc T "forced_by" p_forced_by] [Fc T "clashes" p_clashes] [Fc T "comes_twice" p_comes_twice] [Fc T "first_refusal" p_first_refusal] [Fc T "refuses" p_refuses] [Fc T "part_of" p_part_of] [Fc T "_law_moved" h_moved] [Fc T "clash" p_clash] [Fc T "need_field" p_need_field] [Fc T "need_entry" p_need_entry] {n : Nat} {g : List GI} {ss : List Int} {ns ns' TO : List Nat} {TS : List (List Nat)} (hs : Sz ns) (hs' : Sz ns') (tn : Tn ns TO TS) (R : Rn ns ns' (vl TO) (tvL TS)) {B B' : List Rule} (hB : BOk ns B) (rb : Rb (vl TO) (tvL TS) B B') (hBl : B.length ≤ 20) (hBl' : B'.length ≤ 100) {m : Nat} (hm : m ≤ 300000) {ys : List PV} (hy : BagOk m ys) {a1 a8 a9 a11 a12 a13 a14 a15 a16 a17 : Option SV} {p : Post}
    (hp : ∀ st, K14 ss g st → p.nx st) : (exs ⟨callN T (n + 7), 1, [], whileFuel⟩ (SL.drop 10 (SL.body law_k14.body)) ⟨[Vv (.scr ss), a1, Vo ys, Vv (eL ns), Vv (eB B), Vv (.lst (nL TO)), Vv (.lst (TS.map eLL)), Vo (nL ns'), a8, a9, Vv (eB B'), a11, a12, a13, a14, a15, a16, a17, none], g⟩).wq p := by
  have r2 : rngO (.v (.int 2)) = some ((List.range 2).map fun (i : Nat) => .int i) := r_0 (n := 2) (by omega)
  have h8 := hs.hi
  have h1 := hs.lo
  have h8' := hs'.hi
  have hB' := rb_ok R hB rb
  have tu : PV.tup (nL ns') = eL ns' := rfl
  simp [law_k14, SL.drop, SL.body, r2]
  refine for_map (K14t ss ns B TO TS ns' B' a1 a8 a9 m g) ?_ ⟨ys, _, _, _, _, _, _, _, hy, rfl⟩ ?_
  · rintro pre i post st e ⟨ys, a11, a12, a13, a14, a15, a16, a17, hy, rfl⟩
    have le := congrArg List.length e
    simp at le
    simp
    refine draw_partial_wp hs hy (by omega) fun q ys1 hq hy1 => ?_
    have fo := fun nn => followed_eq (T := T) (n := nn) (g := g) hs hB (by omega : B.length ≤ 1000) hq
    have mq := fun nn => moved_eq (T := T) (n := nn) (g := g) hs tn hq
    have hq' := mov_pt R hq
    have fo' := fun nn => followed_eq (T := T) (n := nn) (g := g) hs' hB' (by omega : B'.length ≤ 1000) hq'
    have fr := followed_ren R hs hs' hB rb hq
    rw [fr] at fo'
    have fs := fun t h => (foll_some hs hB hq (t := t) h).1
    have gd := gd_OT hs' (o := (followedF ns B q).map (movP (vl TO) (tvL TS))) (fun t ht => by
      obtain ⟨x, hx, rfl⟩ := Option.map_eq_some_iff.mp ht
      exact mov_pt R (fs x hx))
    have rp := Gd.repr gd (by decide) (by decide) (x := .v (eOT ((followedF ns B q).map (movP (vl TO) (tvL TS))))) rfl
    generalize followedF ns B q = o at fo fo' fs rp
    generalize movP (vl TO) (tvL TS) q = q' at mq fo'
    cases o with
    | none =>
      have e1 : eOT none = .non := rfl
      have e3 : eOT ((none : Option (List (Option Nat))).map (movP (vl TO) (tvL TS))) = .non := rfl
      rw [e1] at fo
      rw [e3] at fo' rp
      simp [fo, mq, tu, fo', rp]
      refine take_wp (many := ns.length) (by omega) (by omega) hy1 (by omega) fun f ys2 hf hy2 => ?_
      have vf := hs.at_ f hf
      simp [ix_L (l := ns) (i := f) hf]
      refine take_wp (many := vl ns f) (by omega) (by omega) hy2 (by omega) fun v ys3 hv hy3 => ?_
      have l3 := tn.l3 f hf
      have i1 := ix_TO (TO := TO) (k := f) (by rw [tn.l1]; exact hf)
      have i2 := ix_TS (TS := TS) (k := f) (by rw [tn.l2]; exact hf)
      have i3 := ix_tv (TS := TS) (k := f) (x := v) (by rw [l3]; exact hv)
      have lo' := rl_ok R (l := (f, v)) hv
      have c1 := fun nn => clash_eq (T := T) (n := nn) (g := g) hs hB (by omega : B.length ≤ 1000) hv
      have c2 := fun nn => clash_eq (T := T) (n := nn) (g := g) hs' hB' (by omega : B'.length ≤ 1000) (f := vl TO f) (v := tvL TS f v) lo'
      have cf := clashF_ren R hs hs' hB rb (l := (f, v)) hv
      have ef : rl (vl TO) (tvL TS) (f, v) = (vl TO f, tvL TS f v) := rfl
      rw [ef] at cf
      have n1 := isn_Cl (o := clashF B (f, v))
      have n2 := isn_Cl (o := clashF B' (vl TO f, tvL TS f v))
      rw [cf] at n2
      generalize eCl (clashF B (f, v)) = X at c1 n1
      generalize eCl (clashF B' (vl TO f, tvL TS f v)) = Y at c2 n2
      have j0 : ∀ a b : PV, ixO (.d (.lst [a, b])) (.v (.int 0)) = some a := fun a b => ix_ofl (i := 0) rfl
      have j1 : ∀ a b : PV, ixO (.d (.lst [a, b])) (.v (.int 1)) = some b := fun a b => ix_ofl (i := 1) rfl
      simp [c1, c2, tu, i1, i2, i3, j0, j1, n1, n2]
      exact ⟨ys3, _, _, _, _, _, _, _, hy3.up (by simp; omega), rfl⟩
    | some t =>
      have mt := fun nn => moved_eq (T := T) (n := nn) (g := g) hs tn (fs t rfl)
      have e1 : eOT (some t) = eT t := rfl
      have e2 : isNone (.v (eT t)) = false := rfl
      have e3 : eOT ((some t).map (movP (vl TO) (tvL TS))) = eT (movP (vl TO) (tvL TS) t) := rfl
      rw [e1] at fo
      rw [e3] at fo' rp
      generalize movP (vl TO) (tvL TS) t = t' at mt fo' rp
      simp [fo, e2, mt, mq, tu, fo', rp]
      refine take_wp (many := ns.length) (by omega) (by omega) hy1 (by omega) fun f ys2 hf hy2 => ?_
      have vf := hs.at_ f hf
      simp [ix_L (l := ns) (i := f) hf]
      refine take_wp (many := vl ns f) (by omega) (by omega) hy2 (by omega) fun v ys3 hv hy3 => ?_
      have l3 := tn.l3 f hf
      have i1 := ix_TO (TO := TO) (k := f) (by rw [tn.l1]; exact hf)
      have i2 := ix_TS (TS := TS) (k := f) (by rw [tn.l2]; exact hf)
      have i3 := ix_tv (TS := TS) (k := f) (x := v) (by rw [l3]; exact hv)
      have lo' := rl_ok R (l := (f, v)) hv
      have c1 := fun nn => clash_eq (T := T) (n := nn) (g := g) hs hB (by omega : B.length ≤ 1000) hv
      have c2 := fun nn => clash_eq (T := T) (n := nn) (g := g) hs' hB' (by omega : B'.length ≤ 1000) (f := vl TO f) (v := tvL TS f v) lo'
      have cf := clashF_ren R hs hs' hB rb (l := (f, v)) hv
      have ef : rl (vl TO) (tvL TS) (f, v) = (vl TO f, tvL TS f v) := rfl
      rw [ef] at cf
      have n1 := isn_Cl (o := clashF B (f, v))
      have n2 := isn_Cl (o := clashF B' (vl TO f, tvL TS f v))
      rw [cf] at n2
      generalize eCl (clashF B (f, v)) = X at c1 n1
      generalize eCl (clashF B' (vl TO f, tvL TS f v)) = Y at c2 n2
      have j0 : ∀ a b : PV, ixO (.d (.lst [a, b])) (.v (.int 0)) = some a := fun a b => ix_ofl (i := 0) rfl
      have j1 : ∀ a b : PV, ixO (.d (.lst [a, b])) (.v (.int 1)) = some b := fun a b => ix_ofl (i := 1) rfl
      simp [c1, c2, tu, i1, i2, i3, j0, j1, n1, n2]
      exact ⟨ys3, _, _, _, _, _, _, _, hy3.up (by simp; omega), rfl⟩
  · rintro st ⟨ys, a11, a12, a13, a14, a15, a16, a17, hy, rfl⟩
    exact hp _ ⟨_, _, _, _, _, _, _, _, _, _, _, _, _, _, _, _, _, rfl⟩
def rAt (B : List Rule) (k : Nat) : Rule := B.getD k (.among 0 [])
theorem rAt_at {B : List Rule} {k : Nat} (h : k < B.length) : B[k]? = some (rAt B k) := by
  unfold rAt
  rw [List.getD_eq_getElem?_getD, List.getElem?_eq_getElem h]
  rfl
def K14m (ss : List Int) (ns : List Nat) (B : List Rule) (a1 a5 a6 a7 a8 a9 a10 a11 a12 a13 a14 a15 a16 a17 : Option SV) (m : Nat) (g : List GI) (pre : List Nat) (acc : List PV) (st : ST) : Prop := ∃ (TS : List (List Nat)) (ys : List PV), acc = TS.map eLL ∧ TS.length = pre.length ∧ (∀ k, k < pre.length → (tsl TS k).Perm (List.range (vl ns k))) ∧ BagOk (m + 8 + 5 * pre.length) ys ∧ st = ⟨[Vv (.scr ss), a1, Vo ys, Vv (eL ns), Vv (eB B), a5, a6, a7, a8, a9, a10, a11, a12, a13, a14, a15, a16, a17, none], g⟩
theorem k14_mid2 {T : Tbl} [Fc T "law" law_k14] [Fc T "_law_pouch" h_pouch] [Fc T "_law_draw_sizes" h_draw_sizes] [Fc T "_law_take" h_take] [Fc T "_law_draw_kept" h_draw_kept] [Fc T "_law_widen" h_widen] [Fc T "_law_named_pair" h_named_pair] [Fc T "_law_test" h_test] [Fc T "_law_one_to_one" h_one_to_one] [Fc T "_law_draw_clause" h_draw_clause] [Fc T "_law_draw_table" h_draw_table] [Fc T "_law_draw_row" h_draw_row] [Fc T "_law_draw_clauses" h_draw_clauses] [Fc T "_law_shuffle" h_shuffle] [Fc T "_law_rename" h_rename] [Fc T "_law_draw_partial" h_draw_partial] [Fc T "followed" p_followed] [Fc T "need_sheet" p_need_sheet] [Fc T "is_sheet" p_is_sheet] [Fc T "is_between" p_is_between] [Fc T "need_book" p_need_book] [Fc T "is_book_of" p_is_book_of] [Fc T "is_rule_of" p_is_rule_of] [Fc T "are_entries" p_are_entries] [Fc T "is_rising" p_is_rising] [Fc T "are_two_fields" p_are_two_fields] [Fc T "are_partners" p_are_partners] [Fc T "is_pair" p_is_pair] [Fc T "need_part" p_need_part] [Fc T "is_part_of" p_is_part_of] [Fc T "closure" p_closure] [Fc T "forced_by" p_forced_by] [Fc T "clashes" p_clashes] [Fc T "comes_twice" p_comes_twice] [Fc T "first_refusal" p_first_refusal] [Fc T "refuses" p_refuses] [Fc T "part_of" p_part_of] [Fc T "_law_moved" h_moved] [Fc T "clash" p_clash] [Fc T "need_field" p_need_field] [Fc T "need_entry" p_need_entry] {n : Nat} {g : List GI} {ss : List Int} {ns : List Nat} (hs : Sz ns) {B : List Rule} (hB : BOk ns B) (hBl : B.length ≤ 9) {m : Nat} (hm : m ≤ 200000) {ys : List PV} (hy : BagOk m ys) {a1 a5 a6 a7 a8 a9 a10 a11 a12 a13 a14 a15 a16 a17 : Option SV} {p : Post}
    (hp : ∀ st, K14 ss g st → p.nx st) : (exs ⟨callN T (n + 7), 1, [], whileFuel⟩ (SL.drop 4 (SL.body law_k14.body)) ⟨[Vv (.scr ss), a1, Vo ys, Vv (eL ns), Vv (eB B), a5, a6, a7, a8, a9, a10, a11, a12, a13, a14, a15, a16, a17, none], g⟩).wq p := by
  have rest := fun ns' TO TS hs' tn R B' rb hBl' m hm ys hy a8 a9 => k14_tests (T := T) (n := n) (g := g) (ss := ss) (ns := ns) (ns' := ns') (TO := TO) (TS := TS) hs hs' tn R hB (B' := B') rb (by omega) hBl' (m := m) hm (ys := ys) hy (a1 := a1) (a8 := a8) (a9 := a9) (a11 := a11) (a12 := a12) (a13 := a13) (a14 := a14) (a15 := a15) (a16 := a16) (a17 := a17) (p := p) hp
  generalize hD : SL.drop 10 (SL.body law_k14.body) = D at rest
  have ed : SL.drop 4 (SL.body law_k14.body) = (.cons (.asg (.t [5, 6]) (.tup (.cons (.call "_law_shuffle" (.cons (.var 2) (.cons (.blt .len (.cons (.var 3) .nil)) .nil))) (.cons (.lc [18] (.v 18) (.seq (.var 3)) .tt (.call "_law_shuffle" (.cons (.var 2) (.cons (.var 18) .nil)))) .nil)))) (.cons (.asg (.v 7) (.bin .Mult (.lst (.cons (.c (.int 0)) .nil)) (.blt .len (.cons (.var 3) .nil)))) (.cons (.for_ (.v 8) (.rng1 (.blt .len (.cons (.var 3) .nil))) (.cons (.sub 7 (.idx (.var 5) (.var 8)) (.idx (.var 3) (.var 8))) .nil)) (.cons (.asg (.v 9) (.call "_law_shuffle" (.cons (.var 2) (.cons (.blt .len (.cons (.var 4) .nil)) .nil)))) (.cons (.asg (.v 9) (.bin .Add (.var 9) (.sl (.var 9) .no (.yes (.call "_law_take" (.cons (.var 2) (.cons (.c (.int 3)) .nil))))))) (.cons (.asg (.v 10) (.blt .tuple (.cons (.lc [8] (.v 8) (.seq (.var 9)) .tt (.call "_law_rename" (.cons (.idx (.var 4) (.var 8)) (.cons (.var 5) (.cons (.var 6) .nil))))) .nil))) D)))))) := by
    rw [← hD]
    rfl
  rw [ed]
  have h8 := hs.hi
  have h1 := hs.lo
  simp
  refine shuffle_wp (many := ns.length) (by omega) hy (by omega) fun TO ys1 pO hy1 => ?_
  have lTO : TO.length = ns.length := by rw [pO.length_eq, List.length_range]
  simp
  refine lc_inv (K14m ss ns B a1 a5 a6 a7 a8 a9 a10 a11 a12 a13 a14 a15 a16 a17 m g) ?_ ⟨[], ys1, rfl, rfl, fun k hk => absurd hk (by simp), hy1.up (by omega), rfl⟩ ?_
  · rintro pre x post acc st e ⟨TS, ys, rfl, hl, hT, hy, rfl⟩
    have le := congrArg List.length e
    simp at le
    have hx : vl ns pre.length = x := by
      rw [e]
      simp [vl]
    have x5 := hs.le5 pre.length
    rw [hx] at x5
    refine lcF_ok rfl ?_
    simp
    refine shuffle_wp (many := x) (by omega) hy (by omega) fun F ys' pF hy' => ?_
    simp
    refine ⟨TS ++ [F], ys', by simp [eLL], by simp [hl], fun k hk => ?_, hy'.up (by simp; omega), rfl⟩
    have hk : k < pre.length + 1 := by simpa using hk
    unfold tsl
    rw [List.getD_eq_getElem?_getD, List.getElem?_append]
    by_cases c : k < TS.length
    · have := hT k (by omega)
      unfold tsl at this
      rw [List.getD_eq_getElem?_getD] at this
      rw [if_pos c]
      exact this
    · have : k = TS.length := by omega
      subst this
      rw [hl, hx]
      simpa using pF
  · rintro r st ⟨TS, ys2, rfl, hTl, hT, hy2, rfl⟩
    have zT : (TS.map eLL).length ≤ line := by simp; unfold line; omega
    have zT2 : TS.length ≤ line := by unfold line; omega
    have tn : Tn ns TO TS := ⟨lTO, hTl, fun k hk => by rw [(hT k hk).length_eq, List.length_range], pO, hT⟩
    have br := b_repN (p := .int 0) (k := ns.length) (by omega) (by omega)
    have eb : List.replicate ns.length (PV.int 0) = nL (List.replicate ns.length 0) := by simp [nL]
    rw [eb] at br
    have eTS : PV.lst (List.map eLL TS) = PV.lst (TS.map eLL) := rfl
    simp [zT, zT2, stTg, storeAll, br, r_0 (n := ns.length) (by omega)]
    have lB : bltO .len [.v (eB B)] = some (.v (.int B.length)) := by simp [eB]
    refine for_map (fun pre st => ∃ x8, st = ⟨[Vv (.scr ss), a1, Vo ys2, Vv (eL ns), Vv (eB B), Vv (.lst (nL TO)), Vv (.lst (TS.map eLL)), Vo (nL (putL (vl TO) (vl ns) pre (List.replicate ns.length 0))), x8, a9, a10, a11, a12, a13, a14, a15, a16, a17, none], g⟩) ?_ ⟨a8, by simp [putL, nL]⟩ ?_
    · rintro pre k post st e ⟨x8, rfl⟩
      obtain ⟨r1, r2, _⟩ := range_pre e
      have hk : k < ns.length := by omega
      have sl := putL_len (tf := vl TO) (val := vl ns) (l := pre) (base := List.replicate ns.length 0)
      have es := congrArg nL (putL_app (tf := vl TO) (val := vl ns) (l := pre) (k := k) (base := List.replicate ns.length 0))
      have tl := perm_lt pO hk
      simp only [List.length_replicate] at sl
      have i2 := ix_TO (TO := TO) (k := k) (by omega)
      have es2 : ∀ (l : List Nat) i v, nL (l.set i v) = (nL l).set i (.int v) := fun l i v => by simp [nL, List.map_set]
      rw [es2] at es
      have xl : (nL (putL (vl TO) (vl ns) pre (List.replicate ns.length 0))).length = ns.length := by simp [nL, sl]
      generalize nL (putL (vl TO) (vl ns) (pre ++ [k]) (List.replicate ns.length 0)) = Y at es
      generalize nL (putL (vl TO) (vl ns) pre (List.replicate ns.length 0)) = X at xl es
      simp [i2, ix_L (l := ns) (i := k) hk, subO, xl, tl, es]
    · rintro st ⟨x8, rfl⟩
      have sl := putL_len (tf := vl TO) (val := vl ns) (l := List.range ns.length) (base := List.replicate ns.length 0)
      simp only [List.length_replicate] at sl
      have hz : ∀ k, k < ns.length → vl (putL (vl TO) (vl ns) (List.range ns.length) (List.replicate ns.length 0)) (vl TO k) = vl ns k := fun k hk => by
        have := putL_at0 (tf := vl TO) (n := ns.length) (fun k hk => perm_lt pO hk) (fun j k hj hk e => perm_inj pO hj hk e) (val := vl ns) hk (l := List.range ns.length) (base := List.replicate ns.length 0) (fun k hk => List.mem_range.mp hk) (by simp)
        rw [if_pos (List.mem_range.mpr hk)] at this
        unfold vl at this ⊢
        rw [List.getD_eq_getElem?_getD, this]
        rfl
      generalize putL (vl TO) (vl ns) (List.range ns.length) (List.replicate ns.length 0) = ns' at sl hz
      have R := tn_rn tn sl hz
      have hs' : Sz ns' := ⟨by omega, by omega, fun f hf => by
        obtain ⟨k, hk, rfl⟩ := R.sur f (by omega)
        rw [hz k hk]
        exact hs.at_ k hk⟩
      simp [lB]
      refine shuffle_wp (many := B.length) (by omega) hy2 (by omega) fun SQ ys3 pS hy3 => ?_
      simp
      refine take_wp (many := 3) (by omega) (by omega) hy3 (by omega) fun d ys4 hd hy4 => ?_
      have lS : SQ.length = B.length := by rw [pS.length_eq, List.length_range]
      have cl : slO (.d (.lst (nL SQ))) none (some (d : Int)) = some (.own (.lst (nL (SQ.take d)))) := by
        rw [sl_d, cut_lo]
        simp [nL, List.map_take]
      have ba : binO .Add (.d (.lst (nL SQ))) (.d (.lst (nL (SQ.take d)))) = some (.own (.lst (nL (SQ ++ SQ.take d)))) := by
        rw [b_addl (a := nL SQ) (b := nL (SQ.take d)) rfl rfl (by simp [nL, line]; omega)]
        simp [nL]
      have sm : ∀ k ∈ SQ ++ SQ.take d, k < B.length := fun k hk => by
        rcases List.mem_append.mp hk with h | h
        · exact List.mem_range.mp (pS.mem_iff.mp h)
        · exact List.mem_range.mp (pS.mem_iff.mp (List.mem_of_mem_take h))
      have sa : ∀ k, k < B.length → k ∈ SQ ++ SQ.take d := fun k hk => List.mem_append.mpr (.inl (pS.mem_iff.mpr (List.mem_range.mpr hk)))
      have sz : (SQ ++ SQ.take d).length ≤ 20 := by simp; omega
      generalize SQ ++ SQ.take d = S2 at ba sm sa sz
      generalize nL (SQ.take d) = W at cl ba
      rw [sl_d] at cl
      have cl2 : cut (nL SQ) none (some (d : Int)) = W := by simpa using cl
      simp [cl2, ba]
      refine lc_wipe (h := fun k => [eR (renR (vl TO) (tvL TS) (rAt B k))]) (fun k hk => lcF_ok rfl ?_) ?_ ?_
      · have hk := sm k hk
        have ixB : ixO (.v (eB B)) (.v (.int (k : Nat))) = some (eR (rAt B k)) := ix_of (by
          rw [List.getElem?_map, rAt_at hk]
          rfl)
        have ok : ROk ns (rAt B k) := hB _ (List.mem_of_getElem? (rAt_at hk))
        simp [wipeS, wipeE, ixB, rename_eq hs tn ok]
      · have fm : S2.flatMap (fun k => [eR (renR (vl TO) (tvL TS) (rAt B k))]) = S2.map fun k => eR (renR (vl TO) (tvL TS) (rAt B k)) := by
          clear sm sa sz ba
          induction S2 with
          | nil => rfl
          | cons a r ih => rw [List.flatMap_cons, ih]; rfl
        rw [fm]
        have eB' : (S2.map fun k => eR (renR (vl TO) (tvL TS) (rAt B k))) = (S2.map fun k => renR (vl TO) (tvL TS) (rAt B k)).map eR := by simp
        have rb : Rb (vl TO) (tvL TS) B (S2.map fun k => renR (vl TO) (tvL TS) (rAt B k)) := ⟨fun r' hr => by
          obtain ⟨k, hk, rfl⟩ := List.mem_map.mp hr
          exact ⟨_, List.mem_of_getElem? (rAt_at (sm k hk)), rfl⟩, fun r hr => by
          obtain ⟨k, hk, e⟩ := List.getElem_of_mem hr
          have := rAt_at hk
          rw [List.getElem?_eq_getElem hk, e] at this
          rw [Option.some.inj this]
          exact List.mem_map.mpr ⟨k, sa k hk, rfl⟩⟩
        have lb : (S2.map fun k => renR (vl TO) (tvL TS) (rAt B k)).length ≤ 20 := by simpa using sz
        rw [eB']
        generalize (S2.map fun k => renR (vl TO) (tvL TS) (rAt B k)) = B' at rb lb
        have zb : (B'.map eR).length ≤ line := by simp; unfold line; omega
        have eb2 : PV.tup (B'.map eR) = eB B' := rfl
        refine ⟨zb, ?_⟩
        simp [eb2, wipeS, wipeE]
        exact rest ns' TO TS hs' tn R B' rb (by omega) _ (by omega) _ hy4 _ _
      · intro h
        subst h
        have eb2 : PV.tup [] = eB [] := rfl
        have rb : Rb (vl TO) (tvL TS) B [] := ⟨fun r' hr => (by cases hr), fun r hr => by
          obtain ⟨k, hk, e⟩ := List.getElem_of_mem hr
          have := sa k hk
          cases this⟩
        simp [eb2, wipeS, wipeE]
        exact rest ns' TO TS hs' tn R [] rb (by simp) _ (by omega) _ hy4 _ _
theorem k14_mid {T : Tbl} [Fc T "law" law_k14] [Fc T "_law_pouch" h_pouch] [Fc T "_law_draw_sizes" h_draw_sizes] [Fc T "_law_take" h_take] [Fc T "_law_draw_kept" h_draw_kept] [Fc T "_law_widen" h_widen] [Fc T "_law_named_pair" h_named_pair] [Fc T "_law_test" h_test] [Fc T "_law_one_to_one" h_one_to_one] [Fc T "_law_draw_clause" h_draw_clause] [Fc T "_law_draw_table" h_draw_table] [Fc T "_law_draw_row" h_draw_row] [Fc T "_law_draw_clauses" h_draw_clauses] [Fc T "_law_shuffle" h_shuffle] [Fc T "_law_rename" h_rename] [Fc T "_law_draw_partial" h_draw_partial] [Fc T "followed" p_followed] [Fc T "need_sheet" p_need_sheet] [Fc T "is_sheet" p_is_sheet] [Fc T "is_between" p_is_between] [Fc T "need_book" p_need_book] [Fc T "is_book_of" p_is_book_of] [Fc T "is_rule_of" p_is_rule_of] [Fc T "are_entries" p_are_entries] [Fc T "is_rising" p_is_rising] [Fc T "are_two_fields" p_are_two_fields] [Fc T "are_partners" p_are_partners] [Fc T "is_pair" p_is_pair] [Fc T "need_part" p_need_part] [Fc T "is_part_of" p_is_part_of] [Fc T "closure" p_closure] [Fc T "forced_by" p_forced_by] [Fc T "clashes" p_clashes] [Fc T "comes_twice" p_comes_twice] [Fc T "first_refusal" p_first_refusal] [Fc T "refuses" p_refuses] [Fc T "part_of" p_part_of] [Fc T "_law_moved" h_moved] [Fc T "clash" p_clash] [Fc T "need_field" p_need_field] [Fc T "need_entry" p_need_entry] {n : Nat} {g : List GI} {ss : List Int} {ns : List Nat} (hs : Sz ns) {B : List Rule} (hB : BOk ns B) (hBl : B.length ≤ 9) {m : Nat} (hm : m ≤ 100000) {ys : List PV} (hy : BagOk m ys) {a1 a5 a6 a7 a8 a9 a10 a11 a12 a13 a14 a15 a16 a17 : Option SV} {p : Post}
    (hp : ∀ st, K14 ss g st → p.nx st) : (exs ⟨callN T (n + 7), 1, [], whileFuel⟩ (SL.drop 3 (SL.body law_k14.body)) ⟨[Vv (.scr ss), a1, Vo ys, Vv (eL ns), Vv (eB B), a5, a6, a7, a8, a9, a10, a11, a12, a13, a14, a15, a16, a17, none], g⟩).wq p := by
  have rest := fun B hB hBl m hm ys hy => k14_mid2 (T := T) (n := n) (g := g) (ss := ss) (ns := ns) hs (B := B) hB hBl (m := m) hm (ys := ys) hy (a1 := a1) (a5 := a5) (a6 := a6) (a7 := a7) (a8 := a8) (a9 := a9) (a10 := a10) (a11 := a11) (a12 := a12) (a13 := a13) (a14 := a14) (a15 := a15) (a16 := a16) (a17 := a17) (p := p) hp
  generalize hD : SL.drop 4 (SL.body law_k14.body) = D at rest
  have ed : SL.drop 3 (SL.body law_k14.body) = (.cons (.ife (.e (.cmp .Eq (.call "_law_take" (.cons (.var 2) (.cons (.c (.int 3)) .nil))) (.c (.int 0)))) (.cons (.asg (.v 4) (.call "_law_draw_clauses" (.cons (.var 2) (.cons (.var 3) (.cons (.c (.int 9)) .nil))))) .nil) .nil) D) := by
    rw [← hD]
    rfl
  rw [ed]
  simp
  refine take_wp (many := 3) (by omega) (by omega) hy (by omega) fun d ys1 hd hy1 => ?_
  by_cases c : d = 0
  · subst c
    simp
    refine draw_clauses_wp (far := 9) hs (by omega) (by omega) hy1 (by omega) fun B2 ys2 hB2 hl2 hy2 => ?_
    simp
    exact rest B2 hB2 hl2 _ (by omega) _ hy2
  · simp [c]
    exact rest B hB hBl _ (by omega) _ hy1
theorem k14_cell {T : Tbl} [Fc T "law" law_k14] [Fc T "_law_pouch" h_pouch] [Fc T "_law_draw_sizes" h_draw_sizes] [Fc T "_law_take" h_take] [Fc T "_law_draw_kept" h_draw_kept] [Fc T "_law_widen" h_widen] [Fc T "_law_named_pair" h_named_pair] [Fc T "_law_test" h_test] [Fc T "_law_one_to_one" h_one_to_one] [Fc T "_law_draw_clause" h_draw_clause] [Fc T "_law_draw_table" h_draw_table] [Fc T "_law_draw_row" h_draw_row] [Fc T "_law_draw_clauses" h_draw_clauses] [Fc T "_law_shuffle" h_shuffle] [Fc T "_law_rename" h_rename] [Fc T "_law_draw_partial" h_draw_partial] [Fc T "followed" p_followed] [Fc T "need_sheet" p_need_sheet] [Fc T "is_sheet" p_is_sheet] [Fc T "is_between" p_is_between] [Fc T "need_book" p_need_book] [Fc T "is_book_of" p_is_book_of] [Fc T "is_rule_of" p_is_rule_of] [Fc T "are_entries" p_are_entries] [Fc T "is_rising" p_is_rising] [Fc T "are_two_fields" p_are_two_fields] [Fc T "are_partners" p_are_partners] [Fc T "is_pair" p_is_pair] [Fc T "need_part" p_need_part] [Fc T "is_part_of" p_is_part_of] [Fc T "closure" p_closure] [Fc T "forced_by" p_forced_by] [Fc T "clashes" p_clashes] [Fc T "comes_twice" p_comes_twice] [Fc T "first_refusal" p_first_refusal] [Fc T "refuses" p_refuses] [Fc T "part_of" p_part_of] [Fc T "_law_moved" h_moved] [Fc T "clash" p_clash] [Fc T "need_field" p_need_field] [Fc T "need_entry" p_need_entry] {n : Nat} {g : List GI} {ss : List Int} {cell : Int} {a2 a3 a4 a5 a6 a7 a8 a9 a10 a11 a12 a13 a14 a15 a16 a17 : Option SV} {p : Post}
    (hp : ∀ st, K14 ss g st → p.nx st) : (exs ⟨callN T (n + 7), 1, [], whileFuel⟩ (SL.body law_k14.body) ⟨[Vv (.scr ss), Vv (.int cell), a2, a3, a4, a5, a6, a7, a8, a9, a10, a11, a12, a13, a14, a15, a16, a17, none], g⟩).wq p := by
  have rest := fun ns hs B hB hBl m hm ys hy => k14_mid (T := T) (n := n) (g := g) (ss := ss) (ns := ns) hs (B := B) hB hBl (m := m) hm (ys := ys) hy (a1 := Vv (.int cell)) (a5 := a5) (a6 := a6) (a7 := a7) (a8 := a8) (a9 := a9) (a10 := a10) (a11 := a11) (a12 := a12) (a13 := a13) (a14 := a14) (a15 := a15) (a16 := a16) (a17 := a17) (p := p) hp
  generalize hD : SL.drop 3 (SL.body law_k14.body) = D at rest
  have ed : SL.body law_k14.body = (.cons (.asg (.v 2) (.call "_law_pouch" (.cons (.var 1) .nil))) (.cons (.asg (.v 3) (.call "_law_draw_sizes" (.cons (.var 2) (.cons (.c (.int 8)) (.cons (.c (.int 5)) .nil))))) (.cons (.asg (.v 4) (.call "_law_draw_kept" (.cons (.var 2) (.cons (.var 3) (.cons (.lst (.cons (.call "_law_draw_row" (.cons (.var 2) (.cons (.var 3) .nil))) (.cons (.call "_law_draw_row" (.cons (.var 2) (.cons (.var 3) .nil))) .nil))) (.cons (.c (.int 9)) .nil)))))) D))) := by
    rw [← hD]
    rfl
  rw [ed]
  simp
  refine pouch_wp fun ys hy => ?_
  simp
  refine draw_sizes_wp (sp := 8) (far := 5) hy (by omega) (by omega) (by omega) (by omega) (by omega) fun ns ys1 hs hy1 => ?_
  simp
  refine draw_row_wp hs hy1 (by omega) fun r1 ys2 hr1 hy2 => ?_
  simp
  refine draw_row_wp hs hy2 (by omega) fun r2 ys3 hr2 hy3 => ?_
  simp
  refine draw_kept_wp (rows := [r1, r2]) (far := 9) hs (fun r hr => by
    simp at hr
    rcases hr with rfl | rfl
    · exact hr1
    · exact hr2) (by simp) (by omega) hy3 (by omega) (.inl rfl) fun B ys4 a' hB hk hl hy4 ha' => ?_
  rcases ha' with rfl | rfl
  all_goals
    simp
    exact rest ns hs B hB hl _ (by omega) _ hy4
theorem law14 {T : Tbl} [Fc T "law" law_k14] [Fc T "_law_pouch" h_pouch] [Fc T "_law_draw_sizes" h_draw_sizes] [Fc T "_law_take" h_take] [Fc T "_law_draw_kept" h_draw_kept] [Fc T "_law_widen" h_widen] [Fc T "_law_named_pair" h_named_pair] [Fc T "_law_test" h_test] [Fc T "_law_one_to_one" h_one_to_one] [Fc T "_law_draw_clause" h_draw_clause] [Fc T "_law_draw_table" h_draw_table] [Fc T "_law_draw_row" h_draw_row] [Fc T "_law_draw_clauses" h_draw_clauses] [Fc T "_law_shuffle" h_shuffle] [Fc T "_law_rename" h_rename] [Fc T "_law_draw_partial" h_draw_partial] [Fc T "followed" p_followed] [Fc T "need_sheet" p_need_sheet] [Fc T "is_sheet" p_is_sheet] [Fc T "is_between" p_is_between] [Fc T "need_book" p_need_book] [Fc T "is_book_of" p_is_book_of] [Fc T "is_rule_of" p_is_rule_of] [Fc T "are_entries" p_are_entries] [Fc T "is_rising" p_is_rising] [Fc T "are_two_fields" p_are_two_fields] [Fc T "are_partners" p_are_partners] [Fc T "is_pair" p_is_pair] [Fc T "need_part" p_need_part] [Fc T "is_part_of" p_is_part_of] [Fc T "closure" p_closure] [Fc T "forced_by" p_forced_by] [Fc T "clashes" p_clashes] [Fc T "comes_twice" p_comes_twice] [Fc T "first_refusal" p_first_refusal] [Fc T "refuses" p_refuses] [Fc T "part_of" p_part_of] [Fc T "_law_moved" h_moved] [Fc T "clash" p_clash] [Fc T "need_field" p_need_field] [Fc T "need_entry" p_need_entry] {n : Nat} {g : List GI} {ss : List Int} : ∃ as' g', callN T (n + 8) "law" [.v (.scr ss)] g = .ret (.v (.bl true)) as' g' := by
  refine ret_of ?_
  refine run_in (Fc.at_ : T "law" = some law_k14) rfl rfl ?_
  have cell := fun c a2 a3 a4 a5 a6 a7 a8 a9 a10 a11 a12 a13 a14 a15 a16 a17 p hp => k14_cell (T := T) (n := n) (g := g) (ss := ss) (cell := c) (a2 := a2) (a3 := a3) (a4 := a4) (a5 := a5) (a6 := a6) (a7 := a7) (a8 := a8) (a9 := a9) (a10 := a10) (a11 := a11) (a12 := a12) (a13 := a13) (a14 := a14) (a15 := a15) (a16 := a16) (a17 := a17) (p := p) hp
  change (exs _ law_k14.body _).wq _
  refine law_main (k := 3) (K14 ss g) (by omega) rfl (by decide) (by decide +kernel) (fun c st p h hp hpc => ?_) ⟨_, _, _, _, _, _, _, _, _, _, _, _, _, _, _, _, _, rfl⟩ ?_
  · obtain ⟨a1, a2, a3, a4, a5, a6, a7, a8, a9, a10, a11, a12, a13, a14, a15, a16, a17, rfl⟩ := h
    exact cell _ _ _ _ _ _ _ _ _ _ _ _ _ _ _ _ _ _ hp
  · rintro st ⟨a1, a2, a3, a4, a5, a6, a7, a8, a9, a10, a11, a12, a13, a14, a15, a16, a17, rfl⟩
    simp
end Q
end
section
set_option maxHeartbeats 4000000
namespace Q.K14
open PySem L2 Q
def top (i : Nat) : Stmt := PySem.Challenge.pw_eitherfields_k14_whole_other_names.main.body.getD i (.Pass ⟨0, 0, 0, 0⟩)
def d_is_between : DefE := ⟨"is_between", top 8, ["value", "low", "end"], ["value", "low", "end"], true, p_is_between⟩
def d_is_sheet : DefE := ⟨"is_sheet", top 9, ["value", "size"], ["value"], true, p_is_sheet⟩
def d_is_rising : DefE := ⟨"is_rising", top 10, ["items", "k"], ["items"], true, p_is_rising⟩
def d_are_entries : DefE := ⟨"are_entries", top 11, ["size", "value", "entry"], ["size", "value"], true, p_are_entries⟩
def d_is_pair : DefE := ⟨"is_pair", top 12, ["low_size", "high_size", "value"], ["low_size", "high_size", "value"], true, p_is_pair⟩
def d_are_partners : DefE := ⟨"are_partners", top 13, ["low_size", "high_size", "value", "pair"], ["low_size", "high_size", "value"], true, p_are_partners⟩
def d_are_two_fields : DefE := ⟨"are_two_fields", top 14, ["sheet", "low", "high"], ["sheet", "low", "high"], true, p_are_two_fields⟩
def d_is_rule_of : DefE := ⟨"is_rule_of", top 15, ["sheet", "value"], ["sheet", "value"], true, p_is_rule_of⟩
def d_is_book_of : DefE := ⟨"is_book_of", top 16, ["sheet", "value", "rule"], ["sheet", "value"], true, p_is_book_of⟩
def d_is_part_of : DefE := ⟨"is_part_of", top 17, ["sheet", "value", "k"], ["sheet", "value"], true, p_is_part_of⟩
def d_need_sheet : DefE := ⟨"need_sheet", top 18, ["sheet"], ["sheet"], true, p_need_sheet⟩
def d_need_field : DefE := ⟨"need_field", top 19, ["sheet", "field"], ["sheet", "field"], true, p_need_field⟩
def d_need_entry : DefE := ⟨"need_entry", top 20, ["sheet", "field", "entry"], ["sheet", "field", "entry"], true, p_need_entry⟩
def d_need_book : DefE := ⟨"need_book", top 21, ["sheet", "book"], ["sheet", "book"], true, p_need_book⟩
def d_need_part : DefE := ⟨"need_part", top 22, ["sheet", "part"], ["sheet", "part"], true, p_need_part⟩
def d_forced_by : DefE := ⟨"forced_by", top 24, ["rule", "field", "entry", "low", "high"], ["rule", "field", "entry"], true, p_forced_by⟩
def d_refuses : DefE := ⟨"refuses", top 25, ["rule", "field", "entry"], ["rule", "field", "entry"], true, p_refuses⟩
def d_closure : DefE := ⟨"closure", top 26, ["book", "literals", "come", "known", "field", "entry", "at", "k", "forced"], ["book", "literals"], true, p_closure⟩
def d_first_refusal : DefE := ⟨"first_refusal", top 27, ["book", "come", "step", "k"], ["book", "come"], true, p_first_refusal⟩
def d_comes_twice : DefE := ⟨"comes_twice", top 28, ["come", "step"], ["come"], true, p_comes_twice⟩
def d_clashes : DefE := ⟨"clashes", top 29, ["book", "come"], ["book", "come"], true, p_clashes⟩
def d_part_of : DefE := ⟨"part_of", top 30, ["sheet", "come", "entries", "step", "field"], ["sheet", "come"], true, p_part_of⟩
def d_followed : DefE := ⟨"followed", top 31, ["sheet", "book", "part", "come", "k"], ["sheet", "book", "part"], true, p_followed⟩
def d_clash : DefE := ⟨"clash", top 32, ["sheet", "book", "field", "entry", "come"], ["sheet", "book", "field", "entry"], true, p_clash⟩
def d_law_pouch : DefE := ⟨"_law_pouch", top 34, ["cell", "rest"], ["cell"], true, h_pouch⟩
def d_law_take : DefE := ⟨"_law_take", top 35, ["bag", "many", "digit", "base", "turn", "stir"], ["bag", "many"], true, h_take⟩
def d_law_draw_sizes : DefE := ⟨"_law_draw_sizes", top 36, ["bag", "most_spots", "far", "way", "many", "k"], ["bag", "most_spots", "far"], true, h_draw_sizes⟩
def d_law_draw_table : DefE := ⟨"_law_draw_table", top 37, ["bag", "low_size", "high_size", "thick", "left", "item", "found"], ["bag", "low_size", "high_size"], true, h_draw_table⟩
def d_law_draw_clause : DefE := ⟨"_law_draw_clause", top 38, ["bag", "sizes", "kind", "low", "way", "given", "item", "high"], ["bag", "sizes"], true, h_draw_clause⟩
def d_law_draw_clauses : DefE := ⟨"_law_draw_clauses", top 39, ["bag", "sizes", "far", "way", "many", "found", "k"], ["bag", "sizes", "far"], true, h_draw_clauses⟩
def d_law_draw_row : DefE := ⟨"_law_draw_row", top 40, ["bag", "sizes", "size"], ["bag", "sizes"], true, h_draw_row⟩
def d_law_draw_partial : DefE := ⟨"_law_draw_partial", top 41, ["bag", "sizes", "way", "found", "size"], ["bag", "sizes"], true, h_draw_partial⟩
def d_law_test : DefE := ⟨"_law_test", top 42, ["clause", "row", "item", "a", "b"], ["clause", "row"], true, h_test⟩
def d_law_named_pair : DefE := ⟨"_law_named_pair", top 43, ["clause"], ["clause"], true, h_named_pair⟩
def d_law_one_to_one : DefE := ⟨"_law_one_to_one", top 44, ["table", "lows", "highs", "a", "b"], ["table"], true, h_one_to_one⟩
def d_law_widen : DefE := ⟨"_law_widen", top 45, ["clause", "rows", "low", "high", "shown", "pair", "a", "more", "less", "b", "given", "row"], ["clause", "rows"], true, h_widen⟩
def d_law_draw_kept : DefE := ⟨"_law_draw_kept", top 46, ["bag", "sizes", "rows", "far", "way", "many", "k"], ["bag", "sizes", "rows", "far"], true, h_draw_kept⟩
def d_law_shuffle : DefE := ⟨"_law_shuffle", top 47, ["bag", "many", "left", "found", "k"], ["bag", "many"], true, h_shuffle⟩
def d_law_rename : DefE := ⟨"_law_rename", top 48, ["clause", "to", "turns", "low", "high", "swapped", "table", "item", "a", "b"], ["clause", "to", "turns"], true, h_rename⟩
def d_law_moved : DefE := ⟨"_law_moved", top 49, ["row", "to", "turns", "found", "k"], ["row", "to", "turns"], true, h_moved⟩
def d_law : DefE := ⟨"law", top 50, ["script", "cell", "bag", "sizes", "clauses", "to", "turns", "strange", "k", "sequence", "others", "turn", "partial", "told", "due", "spot", "item", "papers", "size"], ["script"], true, law_k14⟩
def defs : List DefE := [d_is_between, d_is_sheet, d_is_rising, d_are_entries, d_is_pair, d_are_partners, d_are_two_fields, d_is_rule_of, d_is_book_of, d_is_part_of, d_need_sheet, d_need_field, d_need_entry, d_need_book, d_need_part, d_forced_by, d_refuses, d_closure, d_first_refusal, d_comes_twice, d_clashes, d_part_of, d_followed, d_clash, d_law_pouch, d_law_take, d_law_draw_sizes, d_law_draw_table, d_law_draw_clause, d_law_draw_clauses, d_law_draw_row, d_law_draw_partial, d_law_test, d_law_named_pair, d_law_one_to_one, d_law_widen, d_law_draw_kept, d_law_shuffle, d_law_rename, d_law_moved, d_law]
def kbs : List KB := []
theorem hd : ∀ d ∈ defs, defB defs kbs d = true := by
  have h : defs.all (defB defs kbs) = true := by decide +kernel
  exact List.all_eq_true.mp h
theorem hnd : (defs.map (·.x)).Nodup := by decide +kernel
theorem bp_is_between : d_is_between.pos = true → ∀ (kV doc pm : Value) (an : Option Addr) (cdv ct : Value) (us : List Value), us.length = d_is_between.ps.length → bindArgs (PySem.W.fnOf d_is_between.x d_is_between.x (defArgs d_is_between.st) (defBody d_is_between.st) (defScope d_is_between.st) .none kV doc pm an cdv ct) ⟨us, []⟩ = pure (d_is_between.ps.zip us) := fun _ _ _ _ _ _ _ us hl => match us, hl with | [_, _, _], _ => rfl
theorem bk_is_between : ∀ b ∈ kbs, b.f = d_is_between.x → ∀ (kV doc pm : Value) (an : Option Addr) (cdv ct : Value) (us ws : List Value), us.length = b.n → ws.length = b.ks.length → ∃ zs, bindArgs (PySem.W.fnOf d_is_between.x d_is_between.x (defArgs d_is_between.st) (defBody d_is_between.st) (defScope d_is_between.st) .none kV doc pm an cdv ct) ⟨us, b.ks.zip ws⟩ = pure (d_is_between.ps.zip zs) ∧ Picks (us ++ ws) b.pm zs := by
  intro b hb; cases hb
theorem bp_is_sheet : d_is_sheet.pos = true → ∀ (kV doc pm : Value) (an : Option Addr) (cdv ct : Value) (us : List Value), us.length = d_is_sheet.ps.length → bindArgs (PySem.W.fnOf d_is_sheet.x d_is_sheet.x (defArgs d_is_sheet.st) (defBody d_is_sheet.st) (defScope d_is_sheet.st) .none kV doc pm an cdv ct) ⟨us, []⟩ = pure (d_is_sheet.ps.zip us) := fun _ _ _ _ _ _ _ us hl => match us, hl with | [_], _ => rfl
theorem bk_is_sheet : ∀ b ∈ kbs, b.f = d_is_sheet.x → ∀ (kV doc pm : Value) (an : Option Addr) (cdv ct : Value) (us ws : List Value), us.length = b.n → ws.length = b.ks.length → ∃ zs, bindArgs (PySem.W.fnOf d_is_sheet.x d_is_sheet.x (defArgs d_is_sheet.st) (defBody d_is_sheet.st) (defScope d_is_sheet.st) .none kV doc pm an cdv ct) ⟨us, b.ks.zip ws⟩ = pure (d_is_sheet.ps.zip zs) ∧ Picks (us ++ ws) b.pm zs := by
  intro b hb; cases hb
theorem bp_is_rising : d_is_rising.pos = true → ∀ (kV doc pm : Value) (an : Option Addr) (cdv ct : Value) (us : List Value), us.length = d_is_rising.ps.length → bindArgs (PySem.W.fnOf d_is_rising.x d_is_rising.x (defArgs d_is_rising.st) (defBody d_is_rising.st) (defScope d_is_rising.st) .none kV doc pm an cdv ct) ⟨us, []⟩ = pure (d_is_rising.ps.zip us) := fun _ _ _ _ _ _ _ us hl => match us, hl with | [_], _ => rfl
theorem bk_is_rising : ∀ b ∈ kbs, b.f = d_is_rising.x → ∀ (kV doc pm : Value) (an : Option Addr) (cdv ct : Value) (us ws : List Value), us.length = b.n → ws.length = b.ks.length → ∃ zs, bindArgs (PySem.W.fnOf d_is_rising.x d_is_rising.x (defArgs d_is_rising.st) (defBody d_is_rising.st) (defScope d_is_rising.st) .none kV doc pm an cdv ct) ⟨us, b.ks.zip ws⟩ = pure (d_is_rising.ps.zip zs) ∧ Picks (us ++ ws) b.pm zs := by
  intro b hb; cases hb
theorem bp_are_entries : d_are_entries.pos = true → ∀ (kV doc pm : Value) (an : Option Addr) (cdv ct : Value) (us : List Value), us.length = d_are_entries.ps.length → bindArgs (PySem.W.fnOf d_are_entries.x d_are_entries.x (defArgs d_are_entries.st) (defBody d_are_entries.st) (defScope d_are_entries.st) .none kV doc pm an cdv ct) ⟨us, []⟩ = pure (d_are_entries.ps.zip us) := fun _ _ _ _ _ _ _ us hl => match us, hl with | [_, _], _ => rfl
theorem bk_are_entries : ∀ b ∈ kbs, b.f = d_are_entries.x → ∀ (kV doc pm : Value) (an : Option Addr) (cdv ct : Value) (us ws : List Value), us.length = b.n → ws.length = b.ks.length → ∃ zs, bindArgs (PySem.W.fnOf d_are_entries.x d_are_entries.x (defArgs d_are_entries.st) (defBody d_are_entries.st) (defScope d_are_entries.st) .none kV doc pm an cdv ct) ⟨us, b.ks.zip ws⟩ = pure (d_are_entries.ps.zip zs) ∧ Picks (us ++ ws) b.pm zs := by
  intro b hb; cases hb
theorem bp_is_pair : d_is_pair.pos = true → ∀ (kV doc pm : Value) (an : Option Addr) (cdv ct : Value) (us : List Value), us.length = d_is_pair.ps.length → bindArgs (PySem.W.fnOf d_is_pair.x d_is_pair.x (defArgs d_is_pair.st) (defBody d_is_pair.st) (defScope d_is_pair.st) .none kV doc pm an cdv ct) ⟨us, []⟩ = pure (d_is_pair.ps.zip us) := fun _ _ _ _ _ _ _ us hl => match us, hl with | [_, _, _], _ => rfl
theorem bk_is_pair : ∀ b ∈ kbs, b.f = d_is_pair.x → ∀ (kV doc pm : Value) (an : Option Addr) (cdv ct : Value) (us ws : List Value), us.length = b.n → ws.length = b.ks.length → ∃ zs, bindArgs (PySem.W.fnOf d_is_pair.x d_is_pair.x (defArgs d_is_pair.st) (defBody d_is_pair.st) (defScope d_is_pair.st) .none kV doc pm an cdv ct) ⟨us, b.ks.zip ws⟩ = pure (d_is_pair.ps.zip zs) ∧ Picks (us ++ ws) b.pm zs := by
  intro b hb; cases hb
theorem bp_are_partners : d_are_partners.pos = true → ∀ (kV doc pm : Value) (an : Option Addr) (cdv ct : Value) (us : List Value), us.length = d_are_partners.ps.length → bindArgs (PySem.W.fnOf d_are_partners.x d_are_partners.x (defArgs d_are_partners.st) (defBody d_are_partners.st) (defScope d_are_partners.st) .none kV doc pm an cdv ct) ⟨us, []⟩ = pure (d_are_partners.ps.zip us) := fun _ _ _ _ _ _ _ us hl => match us, hl with | [_, _, _], _ => rfl
theorem bk_are_partners : ∀ b ∈ kbs, b.f = d_are_partners.x → ∀ (kV doc pm : Value) (an : Option Addr) (cdv ct : Value) (us ws : List Value), us.length = b.n → ws.length = b.ks.length → ∃ zs, bindArgs (PySem.W.fnOf d_are_partners.x d_are_partners.x (defArgs d_are_partners.st) (defBody d_are_partners.st) (defScope d_are_partners.st) .none kV doc pm an cdv ct) ⟨us, b.ks.zip ws⟩ = pure (d_are_partners.ps.zip zs) ∧ Picks (us ++ ws) b.pm zs := by
  intro b hb; cases hb
theorem bp_are_two_fields : d_are_two_fields.pos = true → ∀ (kV doc pm : Value) (an : Option Addr) (cdv ct : Value) (us : List Value), us.length = d_are_two_fields.ps.length → bindArgs (PySem.W.fnOf d_are_two_fields.x d_are_two_fields.x (defArgs d_are_two_fields.st) (defBody d_are_two_fields.st) (defScope d_are_two_fields.st) .none kV doc pm an cdv ct) ⟨us, []⟩ = pure (d_are_two_fields.ps.zip us) := fun _ _ _ _ _ _ _ us hl => match us, hl with | [_, _, _], _ => rfl
theorem bk_are_two_fields : ∀ b ∈ kbs, b.f = d_are_two_fields.x → ∀ (kV doc pm : Value) (an : Option Addr) (cdv ct : Value) (us ws : List Value), us.length = b.n → ws.length = b.ks.length → ∃ zs, bindArgs (PySem.W.fnOf d_are_two_fields.x d_are_two_fields.x (defArgs d_are_two_fields.st) (defBody d_are_two_fields.st) (defScope d_are_two_fields.st) .none kV doc pm an cdv ct) ⟨us, b.ks.zip ws⟩ = pure (d_are_two_fields.ps.zip zs) ∧ Picks (us ++ ws) b.pm zs := by
  intro b hb; cases hb
theorem bp_is_rule_of : d_is_rule_of.pos = true → ∀ (kV doc pm : Value) (an : Option Addr) (cdv ct : Value) (us : List Value), us.length = d_is_rule_of.ps.length → bindArgs (PySem.W.fnOf d_is_rule_of.x d_is_rule_of.x (defArgs d_is_rule_of.st) (defBody d_is_rule_of.st) (defScope d_is_rule_of.st) .none kV doc pm an cdv ct) ⟨us, []⟩ = pure (d_is_rule_of.ps.zip us) := fun _ _ _ _ _ _ _ us hl => match us, hl with | [_, _], _ => rfl
theorem bk_is_rule_of : ∀ b ∈ kbs, b.f = d_is_rule_of.x → ∀ (kV doc pm : Value) (an : Option Addr) (cdv ct : Value) (us ws : List Value), us.length = b.n → ws.length = b.ks.length → ∃ zs, bindArgs (PySem.W.fnOf d_is_rule_of.x d_is_rule_of.x (defArgs d_is_rule_of.st) (defBody d_is_rule_of.st) (defScope d_is_rule_of.st) .none kV doc pm an cdv ct) ⟨us, b.ks.zip ws⟩ = pure (d_is_rule_of.ps.zip zs) ∧ Picks (us ++ ws) b.pm zs := by
  intro b hb; cases hb
theorem bp_is_book_of : d_is_book_of.pos = true → ∀ (kV doc pm : Value) (an : Option Addr) (cdv ct : Value) (us : List Value), us.length = d_is_book_of.ps.length → bindArgs (PySem.W.fnOf d_is_book_of.x d_is_book_of.x (defArgs d_is_book_of.st) (defBody d_is_book_of.st) (defScope d_is_book_of.st) .none kV doc pm an cdv ct) ⟨us, []⟩ = pure (d_is_book_of.ps.zip us) := fun _ _ _ _ _ _ _ us hl => match us, hl with | [_, _], _ => rfl
theorem bk_is_book_of : ∀ b ∈ kbs, b.f = d_is_book_of.x → ∀ (kV doc pm : Value) (an : Option Addr) (cdv ct : Value) (us ws : List Value), us.length = b.n → ws.length = b.ks.length → ∃ zs, bindArgs (PySem.W.fnOf d_is_book_of.x d_is_book_of.x (defArgs d_is_book_of.st) (defBody d_is_book_of.st) (defScope d_is_book_of.st) .none kV doc pm an cdv ct) ⟨us, b.ks.zip ws⟩ = pure (d_is_book_of.ps.zip zs) ∧ Picks (us ++ ws) b.pm zs := by
  intro b hb; cases hb
theorem bp_is_part_of : d_is_part_of.pos = true → ∀ (kV doc pm : Value) (an : Option Addr) (cdv ct : Value) (us : List Value), us.length = d_is_part_of.ps.length → bindArgs (PySem.W.fnOf d_is_part_of.x d_is_part_of.x (defArgs d_is_part_of.st) (defBody d_is_part_of.st) (defScope d_is_part_of.st) .none kV doc pm an cdv ct) ⟨us, []⟩ = pure (d_is_part_of.ps.zip us) := fun _ _ _ _ _ _ _ us hl => match us, hl with | [_, _], _ => rfl
theorem bk_is_part_of : ∀ b ∈ kbs, b.f = d_is_part_of.x → ∀ (kV doc pm : Value) (an : Option Addr) (cdv ct : Value) (us ws : List Value), us.length = b.n → ws.length = b.ks.length → ∃ zs, bindArgs (PySem.W.fnOf d_is_part_of.x d_is_part_of.x (defArgs d_is_part_of.st) (defBody d_is_part_of.st) (defScope d_is_part_of.st) .none kV doc pm an cdv ct) ⟨us, b.ks.zip ws⟩ = pure (d_is_part_of.ps.zip zs) ∧ Picks (us ++ ws) b.pm zs := by
  intro b hb; cases hb
theorem bp_need_sheet : d_need_sheet.pos = true → ∀ (kV doc pm : Value) (an : Option Addr) (cdv ct : Value) (us : List Value), us.length = d_need_sheet.ps.length → bindArgs (PySem.W.fnOf d_need_sheet.x d_need_sheet.x (defArgs d_need_sheet.st) (defBody d_need_sheet.st) (defScope d_need_sheet.st) .none kV doc pm an cdv ct) ⟨us, []⟩ = pure (d_need_sheet.ps.zip us) := fun _ _ _ _ _ _ _ us hl => match us, hl with | [_], _ => rfl
theorem bk_need_sheet : ∀ b ∈ kbs, b.f = d_need_sheet.x → ∀ (kV doc pm : Value) (an : Option Addr) (cdv ct : Value) (us ws : List Value), us.length = b.n → ws.length = b.ks.length → ∃ zs, bindArgs (PySem.W.fnOf d_need_sheet.x d_need_sheet.x (defArgs d_need_sheet.st) (defBody d_need_sheet.st) (defScope d_need_sheet.st) .none kV doc pm an cdv ct) ⟨us, b.ks.zip ws⟩ = pure (d_need_sheet.ps.zip zs) ∧ Picks (us ++ ws) b.pm zs := by
  intro b hb; cases hb
theorem bp_need_field : d_need_field.pos = true → ∀ (kV doc pm : Value) (an : Option Addr) (cdv ct : Value) (us : List Value), us.length = d_need_field.ps.length → bindArgs (PySem.W.fnOf d_need_field.x d_need_field.x (defArgs d_need_field.st) (defBody d_need_field.st) (defScope d_need_field.st) .none kV doc pm an cdv ct) ⟨us, []⟩ = pure (d_need_field.ps.zip us) := fun _ _ _ _ _ _ _ us hl => match us, hl with | [_, _], _ => rfl
theorem bk_need_field : ∀ b ∈ kbs, b.f = d_need_field.x → ∀ (kV doc pm : Value) (an : Option Addr) (cdv ct : Value) (us ws : List Value), us.length = b.n → ws.length = b.ks.length → ∃ zs, bindArgs (PySem.W.fnOf d_need_field.x d_need_field.x (defArgs d_need_field.st) (defBody d_need_field.st) (defScope d_need_field.st) .none kV doc pm an cdv ct) ⟨us, b.ks.zip ws⟩ = pure (d_need_field.ps.zip zs) ∧ Picks (us ++ ws) b.pm zs := by
  intro b hb; cases hb
theorem bp_need_entry : d_need_entry.pos = true → ∀ (kV doc pm : Value) (an : Option Addr) (cdv ct : Value) (us : List Value), us.length = d_need_entry.ps.length → bindArgs (PySem.W.fnOf d_need_entry.x d_need_entry.x (defArgs d_need_entry.st) (defBody d_need_entry.st) (defScope d_need_entry.st) .none kV doc pm an cdv ct) ⟨us, []⟩ = pure (d_need_entry.ps.zip us) := fun _ _ _ _ _ _ _ us hl => match us, hl with | [_, _, _], _ => rfl
theorem bk_need_entry : ∀ b ∈ kbs, b.f = d_need_entry.x → ∀ (kV doc pm : Value) (an : Option Addr) (cdv ct : Value) (us ws : List Value), us.length = b.n → ws.length = b.ks.length → ∃ zs, bindArgs (PySem.W.fnOf d_need_entry.x d_need_entry.x (defArgs d_need_entry.st) (defBody d_need_entry.st) (defScope d_need_entry.st) .none kV doc pm an cdv ct) ⟨us, b.ks.zip ws⟩ = pure (d_need_entry.ps.zip zs) ∧ Picks (us ++ ws) b.pm zs := by
  intro b hb; cases hb
theorem bp_need_book : d_need_book.pos = true → ∀ (kV doc pm : Value) (an : Option Addr) (cdv ct : Value) (us : List Value), us.length = d_need_book.ps.length → bindArgs (PySem.W.fnOf d_need_book.x d_need_book.x (defArgs d_need_book.st) (defBody d_need_book.st) (defScope d_need_book.st) .none kV doc pm an cdv ct) ⟨us, []⟩ = pure (d_need_book.ps.zip us) := fun _ _ _ _ _ _ _ us hl => match us, hl with | [_, _], _ => rfl
theorem bk_need_book : ∀ b ∈ kbs, b.f = d_need_book.x → ∀ (kV doc pm : Value) (an : Option Addr) (cdv ct : Value) (us ws : List Value), us.length = b.n → ws.length = b.ks.length → ∃ zs, bindArgs (PySem.W.fnOf d_need_book.x d_need_book.x (defArgs d_need_book.st) (defBody d_need_book.st) (defScope d_need_book.st) .none kV doc pm an cdv ct) ⟨us, b.ks.zip ws⟩ = pure (d_need_book.ps.zip zs) ∧ Picks (us ++ ws) b.pm zs := by
  intro b hb; cases hb
theorem bp_need_part : d_need_part.pos = true → ∀ (kV doc pm : Value) (an : Option Addr) (cdv ct : Value) (us : List Value), us.length = d_need_part.ps.length → bindArgs (PySem.W.fnOf d_need_part.x d_need_part.x (defArgs d_need_part.st) (defBody d_need_part.st) (defScope d_need_part.st) .none kV doc pm an cdv ct) ⟨us, []⟩ = pure (d_need_part.ps.zip us) := fun _ _ _ _ _ _ _ us hl => match us, hl with | [_, _], _ => rfl
theorem bk_need_part : ∀ b ∈ kbs, b.f = d_need_part.x → ∀ (kV doc pm : Value) (an : Option Addr) (cdv ct : Value) (us ws : List Value), us.length = b.n → ws.length = b.ks.length → ∃ zs, bindArgs (PySem.W.fnOf d_need_part.x d_need_part.x (defArgs d_need_part.st) (defBody d_need_part.st) (defScope d_need_part.st) .none kV doc pm an cdv ct) ⟨us, b.ks.zip ws⟩ = pure (d_need_part.ps.zip zs) ∧ Picks (us ++ ws) b.pm zs := by
  intro b hb; cases hb
theorem bp_forced_by : d_forced_by.pos = true → ∀ (kV doc pm : Value) (an : Option Addr) (cdv ct : Value) (us : List Value), us.length = d_forced_by.ps.length → bindArgs (PySem.W.fnOf d_forced_by.x d_forced_by.x (defArgs d_forced_by.st) (defBody d_forced_by.st) (defScope d_forced_by.st) .none kV doc pm an cdv ct) ⟨us, []⟩ = pure (d_forced_by.ps.zip us) := fun _ _ _ _ _ _ _ us hl => match us, hl with | [_, _, _], _ => rfl
theorem bk_forced_by : ∀ b ∈ kbs, b.f = d_forced_by.x → ∀ (kV doc pm : Value) (an : Option Addr) (cdv ct : Value) (us ws : List Value), us.length = b.n → ws.length = b.ks.length → ∃ zs, bindArgs (PySem.W.fnOf d_forced_by.x d_forced_by.x (defArgs d_forced_by.st) (defBody d_forced_by.st) (defScope d_forced_by.st) .none kV doc pm an cdv ct) ⟨us, b.ks.zip ws⟩ = pure (d_forced_by.ps.zip zs) ∧ Picks (us ++ ws) b.pm zs := by
  intro b hb; cases hb
theorem bp_refuses : d_refuses.pos = true → ∀ (kV doc pm : Value) (an : Option Addr) (cdv ct : Value) (us : List Value), us.length = d_refuses.ps.length → bindArgs (PySem.W.fnOf d_refuses.x d_refuses.x (defArgs d_refuses.st) (defBody d_refuses.st) (defScope d_refuses.st) .none kV doc pm an cdv ct) ⟨us, []⟩ = pure (d_refuses.ps.zip us) := fun _ _ _ _ _ _ _ us hl => match us, hl with | [_, _, _], _ => rfl
theorem bk_refuses : ∀ b ∈ kbs, b.f = d_refuses.x → ∀ (kV doc pm : Value) (an : Option Addr) (cdv ct : Value) (us ws : List Value), us.length = b.n → ws.length = b.ks.length → ∃ zs, bindArgs (PySem.W.fnOf d_refuses.x d_refuses.x (defArgs d_refuses.st) (defBody d_refuses.st) (defScope d_refuses.st) .none kV doc pm an cdv ct) ⟨us, b.ks.zip ws⟩ = pure (d_refuses.ps.zip zs) ∧ Picks (us ++ ws) b.pm zs := by
  intro b hb; cases hb
theorem bp_closure : d_closure.pos = true → ∀ (kV doc pm : Value) (an : Option Addr) (cdv ct : Value) (us : List Value), us.length = d_closure.ps.length → bindArgs (PySem.W.fnOf d_closure.x d_closure.x (defArgs d_closure.st) (defBody d_closure.st) (defScope d_closure.st) .none kV doc pm an cdv ct) ⟨us, []⟩ = pure (d_closure.ps.zip us) := fun _ _ _ _ _ _ _ us hl => match us, hl with | [_, _], _ => rfl
theorem bk_closure : ∀ b ∈ kbs, b.f = d_closure.x → ∀ (kV doc pm : Value) (an : Option Addr) (cdv ct : Value) (us ws : List Value), us.length = b.n → ws.length = b.ks.length → ∃ zs, bindArgs (PySem.W.fnOf d_closure.x d_closure.x (defArgs d_closure.st) (defBody d_closure.st) (defScope d_closure.st) .none kV doc pm an cdv ct) ⟨us, b.ks.zip ws⟩ = pure (d_closure.ps.zip zs) ∧ Picks (us ++ ws) b.pm zs := by
  intro b hb; cases hb
theorem bp_first_refusal : d_first_refusal.pos = true → ∀ (kV doc pm : Value) (an : Option Addr) (cdv ct : Value) (us : List Value), us.length = d_first_refusal.ps.length → bindArgs (PySem.W.fnOf d_first_refusal.x d_first_refusal.x (defArgs d_first_refusal.st) (defBody d_first_refusal.st) (defScope d_first_refusal.st) .none kV doc pm an cdv ct) ⟨us, []⟩ = pure (d_first_refusal.ps.zip us) := fun _ _ _ _ _ _ _ us hl => match us, hl with | [_, _], _ => rfl
theorem bk_first_refusal : ∀ b ∈ kbs, b.f = d_first_refusal.x → ∀ (kV doc pm : Value) (an : Option Addr) (cdv ct : Value) (us ws : List Value), us.length = b.n → ws.length = b.ks.length → ∃ zs, bindArgs (PySem.W.fnOf d_first_refusal.x d_first_refusal.x (defArgs d_first_refusal.st) (defBody d_first_refusal.st) (defScope d_first_refusal.st) .none kV doc pm an cdv ct) ⟨us, b.ks.zip ws⟩ = pure (d_first_refusal.ps.zip zs) ∧ Picks (us ++ ws) b.pm zs := by
  intro b hb; cases hb
theorem bp_comes_twice : d_comes_twice.pos = true → ∀ (kV doc pm : Value) (an : Option Addr) (cdv ct : Value) (us : List Value), us.length = d_comes_twice.ps.length → bindArgs (PySem.W.fnOf d_comes_twice.x d_comes_twice.x (defArgs d_comes_twice.st) (defBody d_comes_twice.st) (defScope d_comes_twice.st) .none kV doc pm an cdv ct) ⟨us, []⟩ = pure (d_comes_twice.ps.zip us) := fun _ _ _ _ _ _ _ us hl => match us, hl with | [_], _ => rfl
theorem bk_comes_twice : ∀ b ∈ kbs, b.f = d_comes_twice.x → ∀ (kV doc pm : Value) (an : Option Addr) (cdv ct : Value) (us ws : List Value), us.length = b.n → ws.length = b.ks.length → ∃ zs, bindArgs (PySem.W.fnOf d_comes_twice.x d_comes_twice.x (defArgs d_comes_twice.st) (defBody d_comes_twice.st) (defScope d_comes_twice.st) .none kV doc pm an cdv ct) ⟨us, b.ks.zip ws⟩ = pure (d_comes_twice.ps.zip zs) ∧ Picks (us ++ ws) b.pm zs := by
  intro b hb; cases hb
theorem bp_clashes : d_clashes.pos = true → ∀ (kV doc pm : Value) (an : Option Addr) (cdv ct : Value) (us : List Value), us.length = d_clashes.ps.length → bindArgs (PySem.W.fnOf d_clashes.x d_clashes.x (defArgs d_clashes.st) (defBody d_clashes.st) (defScope d_clashes.st) .none kV doc pm an cdv ct) ⟨us, []⟩ = pure (d_clashes.ps.zip us) := fun _ _ _ _ _ _ _ us hl => match us, hl with | [_, _], _ => rfl
theorem bk_clashes : ∀ b ∈ kbs, b.f = d_clashes.x → ∀ (kV doc pm : Value) (an : Option Addr) (cdv ct : Value) (us ws : List Value), us.length = b.n → ws.length = b.ks.length → ∃ zs, bindArgs (PySem.W.fnOf d_clashes.x d_clashes.x (defArgs d_clashes.st) (defBody d_clashes.st) (defScope d_clashes.st) .none kV doc pm an cdv ct) ⟨us, b.ks.zip ws⟩ = pure (d_clashes.ps.zip zs) ∧ Picks (us ++ ws) b.pm zs := by
  intro b hb; cases hb
theorem bp_part_of : d_part_of.pos = true → ∀ (kV doc pm : Value) (an : Option Addr) (cdv ct : Value) (us : List Value), us.length = d_part_of.ps.length → bindArgs (PySem.W.fnOf d_part_of.x d_part_of.x (defArgs d_part_of.st) (defBody d_part_of.st) (defScope d_part_of.st) .none kV doc pm an cdv ct) ⟨us, []⟩ = pure (d_part_of.ps.zip us) := fun _ _ _ _ _ _ _ us hl => match us, hl with | [_, _], _ => rfl
theorem bk_part_of : ∀ b ∈ kbs, b.f = d_part_of.x → ∀ (kV doc pm : Value) (an : Option Addr) (cdv ct : Value) (us ws : List Value), us.length = b.n → ws.length = b.ks.length → ∃ zs, bindArgs (PySem.W.fnOf d_part_of.x d_part_of.x (defArgs d_part_of.st) (defBody d_part_of.st) (defScope d_part_of.st) .none kV doc pm an cdv ct) ⟨us, b.ks.zip ws⟩ = pure (d_part_of.ps.zip zs) ∧ Picks (us ++ ws) b.pm zs := by
  intro b hb; cases hb
theorem bp_followed : d_followed.pos = true → ∀ (kV doc pm : Value) (an : Option Addr) (cdv ct : Value) (us : List Value), us.length = d_followed.ps.length → bindArgs (PySem.W.fnOf d_followed.x d_followed.x (defArgs d_followed.st) (defBody d_followed.st) (defScope d_followed.st) .none kV doc pm an cdv ct) ⟨us, []⟩ = pure (d_followed.ps.zip us) := fun _ _ _ _ _ _ _ us hl => match us, hl with | [_, _, _], _ => rfl
theorem bk_followed : ∀ b ∈ kbs, b.f = d_followed.x → ∀ (kV doc pm : Value) (an : Option Addr) (cdv ct : Value) (us ws : List Value), us.length = b.n → ws.length = b.ks.length → ∃ zs, bindArgs (PySem.W.fnOf d_followed.x d_followed.x (defArgs d_followed.st) (defBody d_followed.st) (defScope d_followed.st) .none kV doc pm an cdv ct) ⟨us, b.ks.zip ws⟩ = pure (d_followed.ps.zip zs) ∧ Picks (us ++ ws) b.pm zs := by
  intro b hb; cases hb
theorem bp_clash : d_clash.pos = true → ∀ (kV doc pm : Value) (an : Option Addr) (cdv ct : Value) (us : List Value), us.length = d_clash.ps.length → bindArgs (PySem.W.fnOf d_clash.x d_clash.x (defArgs d_clash.st) (defBody d_clash.st) (defScope d_clash.st) .none kV doc pm an cdv ct) ⟨us, []⟩ = pure (d_clash.ps.zip us) := fun _ _ _ _ _ _ _ us hl => match us, hl with | [_, _, _, _], _ => rfl
theorem bk_clash : ∀ b ∈ kbs, b.f = d_clash.x → ∀ (kV doc pm : Value) (an : Option Addr) (cdv ct : Value) (us ws : List Value), us.length = b.n → ws.length = b.ks.length → ∃ zs, bindArgs (PySem.W.fnOf d_clash.x d_clash.x (defArgs d_clash.st) (defBody d_clash.st) (defScope d_clash.st) .none kV doc pm an cdv ct) ⟨us, b.ks.zip ws⟩ = pure (d_clash.ps.zip zs) ∧ Picks (us ++ ws) b.pm zs := by
  intro b hb; cases hb
theorem bp_law_pouch : d_law_pouch.pos = true → ∀ (kV doc pm : Value) (an : Option Addr) (cdv ct : Value) (us : List Value), us.length = d_law_pouch.ps.length → bindArgs (PySem.W.fnOf d_law_pouch.x d_law_pouch.x (defArgs d_law_pouch.st) (defBody d_law_pouch.st) (defScope d_law_pouch.st) .none kV doc pm an cdv ct) ⟨us, []⟩ = pure (d_law_pouch.ps.zip us) := fun _ _ _ _ _ _ _ us hl => match us, hl with | [_], _ => rfl
theorem bk_law_pouch : ∀ b ∈ kbs, b.f = d_law_pouch.x → ∀ (kV doc pm : Value) (an : Option Addr) (cdv ct : Value) (us ws : List Value), us.length = b.n → ws.length = b.ks.length → ∃ zs, bindArgs (PySem.W.fnOf d_law_pouch.x d_law_pouch.x (defArgs d_law_pouch.st) (defBody d_law_pouch.st) (defScope d_law_pouch.st) .none kV doc pm an cdv ct) ⟨us, b.ks.zip ws⟩ = pure (d_law_pouch.ps.zip zs) ∧ Picks (us ++ ws) b.pm zs := by
  intro b hb; cases hb
theorem bp_law_take : d_law_take.pos = true → ∀ (kV doc pm : Value) (an : Option Addr) (cdv ct : Value) (us : List Value), us.length = d_law_take.ps.length → bindArgs (PySem.W.fnOf d_law_take.x d_law_take.x (defArgs d_law_take.st) (defBody d_law_take.st) (defScope d_law_take.st) .none kV doc pm an cdv ct) ⟨us, []⟩ = pure (d_law_take.ps.zip us) := fun _ _ _ _ _ _ _ us hl => match us, hl with | [_, _], _ => rfl
theorem bk_law_take : ∀ b ∈ kbs, b.f = d_law_take.x → ∀ (kV doc pm : Value) (an : Option Addr) (cdv ct : Value) (us ws : List Value), us.length = b.n → ws.length = b.ks.length → ∃ zs, bindArgs (PySem.W.fnOf d_law_take.x d_law_take.x (defArgs d_law_take.st) (defBody d_law_take.st) (defScope d_law_take.st) .none kV doc pm an cdv ct) ⟨us, b.ks.zip ws⟩ = pure (d_law_take.ps.zip zs) ∧ Picks (us ++ ws) b.pm zs := by
  intro b hb; cases hb
theorem bp_law_draw_sizes : d_law_draw_sizes.pos = true → ∀ (kV doc pm : Value) (an : Option Addr) (cdv ct : Value) (us : List Value), us.length = d_law_draw_sizes.ps.length → bindArgs (PySem.W.fnOf d_law_draw_sizes.x d_law_draw_sizes.x (defArgs d_law_draw_sizes.st) (defBody d_law_draw_sizes.st) (defScope d_law_draw_sizes.st) .none kV doc pm an cdv ct) ⟨us, []⟩ = pure (d_law_draw_sizes.ps.zip us) := fun _ _ _ _ _ _ _ us hl => match us, hl with | [_, _, _], _ => rfl
theorem bk_law_draw_sizes : ∀ b ∈ kbs, b.f = d_law_draw_sizes.x → ∀ (kV doc pm : Value) (an : Option Addr) (cdv ct : Value) (us ws : List Value), us.length = b.n → ws.length = b.ks.length → ∃ zs, bindArgs (PySem.W.fnOf d_law_draw_sizes.x d_law_draw_sizes.x (defArgs d_law_draw_sizes.st) (defBody d_law_draw_sizes.st) (defScope d_law_draw_sizes.st) .none kV doc pm an cdv ct) ⟨us, b.ks.zip ws⟩ = pure (d_law_draw_sizes.ps.zip zs) ∧ Picks (us ++ ws) b.pm zs := by
  intro b hb; cases hb
theorem bp_law_draw_table : d_law_draw_table.pos = true → ∀ (kV doc pm : Value) (an : Option Addr) (cdv ct : Value) (us : List Value), us.length = d_law_draw_table.ps.length → bindArgs (PySem.W.fnOf d_law_draw_table.x d_law_draw_table.x (defArgs d_law_draw_table.st) (defBody d_law_draw_table.st) (defScope d_law_draw_table.st) .none kV doc pm an cdv ct) ⟨us, []⟩ = pure (d_law_draw_table.ps.zip us) := fun _ _ _ _ _ _ _ us hl => match us, hl with | [_, _, _], _ => rfl
theorem bk_law_draw_table : ∀ b ∈ kbs, b.f = d_law_draw_table.x → ∀ (kV doc pm : Value) (an : Option Addr) (cdv ct : Value) (us ws : List Value), us.length = b.n → ws.length = b.ks.length → ∃ zs, bindArgs (PySem.W.fnOf d_law_draw_table.x d_law_draw_table.x (defArgs d_law_draw_table.st) (defBody d_law_draw_table.st) (defScope d_law_draw_table.st) .none kV doc pm an cdv ct) ⟨us, b.ks.zip ws⟩ = pure (d_law_draw_table.ps.zip zs) ∧ Picks (us ++ ws) b.pm zs := by
  intro b hb; cases hb
theorem bp_law_draw_clause : d_law_draw_clause.pos = true → ∀ (kV doc pm : Value) (an : Option Addr) (cdv ct : Value) (us : List Value), us.length = d_law_draw_clause.ps.length → bindArgs (PySem.W.fnOf d_law_draw_clause.x d_law_draw_clause.x (defArgs d_law_draw_clause.st) (defBody d_law_draw_clause.st) (defScope d_law_draw_clause.st) .none kV doc pm an cdv ct) ⟨us, []⟩ = pure (d_law_draw_clause.ps.zip us) := fun _ _ _ _ _ _ _ us hl => match us, hl with | [_, _], _ => rfl
theorem bk_law_draw_clause : ∀ b ∈ kbs, b.f = d_law_draw_clause.x → ∀ (kV doc pm : Value) (an : Option Addr) (cdv ct : Value) (us ws : List Value), us.length = b.n → ws.length = b.ks.length → ∃ zs, bindArgs (PySem.W.fnOf d_law_draw_clause.x d_law_draw_clause.x (defArgs d_law_draw_clause.st) (defBody d_law_draw_clause.st) (defScope d_law_draw_clause.st) .none kV doc pm an cdv ct) ⟨us, b.ks.zip ws⟩ = pure (d_law_draw_clause.ps.zip zs) ∧ Picks (us ++ ws) b.pm zs := by
  intro b hb; cases hb
theorem bp_law_draw_clauses : d_law_draw_clauses.pos = true → ∀ (kV doc pm : Value) (an : Option Addr) (cdv ct : Value) (us : List Value), us.length = d_law_draw_clauses.ps.length → bindArgs (PySem.W.fnOf d_law_draw_clauses.x d_law_draw_clauses.x (defArgs d_law_draw_clauses.st) (defBody d_law_draw_clauses.st) (defScope d_law_draw_clauses.st) .none kV doc pm an cdv ct) ⟨us, []⟩ = pure (d_law_draw_clauses.ps.zip us) := fun _ _ _ _ _ _ _ us hl => match us, hl with | [_, _, _], _ => rfl
theorem bk_law_draw_clauses : ∀ b ∈ kbs, b.f = d_law_draw_clauses.x → ∀ (kV doc pm : Value) (an : Option Addr) (cdv ct : Value) (us ws : List Value), us.length = b.n → ws.length = b.ks.length → ∃ zs, bindArgs (PySem.W.fnOf d_law_draw_clauses.x d_law_draw_clauses.x (defArgs d_law_draw_clauses.st) (defBody d_law_draw_clauses.st) (defScope d_law_draw_clauses.st) .none kV doc pm an cdv ct) ⟨us, b.ks.zip ws⟩ = pure (d_law_draw_clauses.ps.zip zs) ∧ Picks (us ++ ws) b.pm zs := by
  intro b hb; cases hb
theorem bp_law_draw_row : d_law_draw_row.pos = true → ∀ (kV doc pm : Value) (an : Option Addr) (cdv ct : Value) (us : List Value), us.length = d_law_draw_row.ps.length → bindArgs (PySem.W.fnOf d_law_draw_row.x d_law_draw_row.x (defArgs d_law_draw_row.st) (defBody d_law_draw_row.st) (defScope d_law_draw_row.st) .none kV doc pm an cdv ct) ⟨us, []⟩ = pure (d_law_draw_row.ps.zip us) := fun _ _ _ _ _ _ _ us hl => match us, hl with | [_, _], _ => rfl
theorem bk_law_draw_row : ∀ b ∈ kbs, b.f = d_law_draw_row.x → ∀ (kV doc pm : Value) (an : Option Addr) (cdv ct : Value) (us ws : List Value), us.length = b.n → ws.length = b.ks.length → ∃ zs, bindArgs (PySem.W.fnOf d_law_draw_row.x d_law_draw_row.x (defArgs d_law_draw_row.st) (defBody d_law_draw_row.st) (defScope d_law_draw_row.st) .none kV doc pm an cdv ct) ⟨us, b.ks.zip ws⟩ = pure (d_law_draw_row.ps.zip zs) ∧ Picks (us ++ ws) b.pm zs := by
  intro b hb; cases hb
theorem bp_law_draw_partial : d_law_draw_partial.pos = true → ∀ (kV doc pm : Value) (an : Option Addr) (cdv ct : Value) (us : List Value), us.length = d_law_draw_partial.ps.length → bindArgs (PySem.W.fnOf d_law_draw_partial.x d_law_draw_partial.x (defArgs d_law_draw_partial.st) (defBody d_law_draw_partial.st) (defScope d_law_draw_partial.st) .none kV doc pm an cdv ct) ⟨us, []⟩ = pure (d_law_draw_partial.ps.zip us) := fun _ _ _ _ _ _ _ us hl => match us, hl with | [_, _], _ => rfl
theorem bk_law_draw_partial : ∀ b ∈ kbs, b.f = d_law_draw_partial.x → ∀ (kV doc pm : Value) (an : Option Addr) (cdv ct : Value) (us ws : List Value), us.length = b.n → ws.length = b.ks.length → ∃ zs, bindArgs (PySem.W.fnOf d_law_draw_partial.x d_law_draw_partial.x (defArgs d_law_draw_partial.st) (defBody d_law_draw_partial.st) (defScope d_law_draw_partial.st) .none kV doc pm an cdv ct) ⟨us, b.ks.zip ws⟩ = pure (d_law_draw_partial.ps.zip zs) ∧ Picks (us ++ ws) b.pm zs := by
  intro b hb; cases hb
theorem bp_law_test : d_law_test.pos = true → ∀ (kV doc pm : Value) (an : Option Addr) (cdv ct : Value) (us : List Value), us.length = d_law_test.ps.length → bindArgs (PySem.W.fnOf d_law_test.x d_law_test.x (defArgs d_law_test.st) (defBody d_law_test.st) (defScope d_law_test.st) .none kV doc pm an cdv ct) ⟨us, []⟩ = pure (d_law_test.ps.zip us) := fun _ _ _ _ _ _ _ us hl => match us, hl with | [_, _], _ => rfl
theorem bk_law_test : ∀ b ∈ kbs, b.f = d_law_test.x → ∀ (kV doc pm : Value) (an : Option Addr) (cdv ct : Value) (us ws : List Value), us.length = b.n → ws.length = b.ks.length → ∃ zs, bindArgs (PySem.W.fnOf d_law_test.x d_law_test.x (defArgs d_law_test.st) (defBody d_law_test.st) (defScope d_law_test.st) .none kV doc pm an cdv ct) ⟨us, b.ks.zip ws⟩ = pure (d_law_test.ps.zip zs) ∧ Picks (us ++ ws) b.pm zs := by
  intro b hb; cases hb
theorem bp_law_named_pair : d_law_named_pair.pos = true → ∀ (kV doc pm : Value) (an : Option Addr) (cdv ct : Value) (us : List Value), us.length = d_law_named_pair.ps.length → bindArgs (PySem.W.fnOf d_law_named_pair.x d_law_named_pair.x (defArgs d_law_named_pair.st) (defBody d_law_named_pair.st) (defScope d_law_named_pair.st) .none kV doc pm an cdv ct) ⟨us, []⟩ = pure (d_law_named_pair.ps.zip us) := fun _ _ _ _ _ _ _ us hl => match us, hl with | [_], _ => rfl
theorem bk_law_named_pair : ∀ b ∈ kbs, b.f = d_law_named_pair.x → ∀ (kV doc pm : Value) (an : Option Addr) (cdv ct : Value) (us ws : List Value), us.length = b.n → ws.length = b.ks.length → ∃ zs, bindArgs (PySem.W.fnOf d_law_named_pair.x d_law_named_pair.x (defArgs d_law_named_pair.st) (defBody d_law_named_pair.st) (defScope d_law_named_pair.st) .none kV doc pm an cdv ct) ⟨us, b.ks.zip ws⟩ = pure (d_law_named_pair.ps.zip zs) ∧ Picks (us ++ ws) b.pm zs := by
  intro b hb; cases hb
theorem bp_law_one_to_one : d_law_one_to_one.pos = true → ∀ (kV doc pm : Value) (an : Option Addr) (cdv ct : Value) (us : List Value), us.length = d_law_one_to_one.ps.length → bindArgs (PySem.W.fnOf d_law_one_to_one.x d_law_one_to_one.x (defArgs d_law_one_to_one.st) (defBody d_law_one_to_one.st) (defScope d_law_one_to_one.st) .none kV doc pm an cdv ct) ⟨us, []⟩ = pure (d_law_one_to_one.ps.zip us) := fun _ _ _ _ _ _ _ us hl => match us, hl with | [_], _ => rfl
theorem bk_law_one_to_one : ∀ b ∈ kbs, b.f = d_law_one_to_one.x → ∀ (kV doc pm : Value) (an : Option Addr) (cdv ct : Value) (us ws : List Value), us.length = b.n → ws.length = b.ks.length → ∃ zs, bindArgs (PySem.W.fnOf d_law_one_to_one.x d_law_one_to_one.x (defArgs d_law_one_to_one.st) (defBody d_law_one_to_one.st) (defScope d_law_one_to_one.st) .none kV doc pm an cdv ct) ⟨us, b.ks.zip ws⟩ = pure (d_law_one_to_one.ps.zip zs) ∧ Picks (us ++ ws) b.pm zs := by
  intro b hb; cases hb
theorem bp_law_widen : d_law_widen.pos = true → ∀ (kV doc pm : Value) (an : Option Addr) (cdv ct : Value) (us : List Value), us.length = d_law_widen.ps.length → bindArgs (PySem.W.fnOf d_law_widen.x d_law_widen.x (defArgs d_law_widen.st) (defBody d_law_widen.st) (defScope d_law_widen.st) .none kV doc pm an cdv ct) ⟨us, []⟩ = pure (d_law_widen.ps.zip us) := fun _ _ _ _ _ _ _ us hl => match us, hl with | [_, _], _ => rfl
theorem bk_law_widen : ∀ b ∈ kbs, b.f = d_law_widen.x → ∀ (kV doc pm : Value) (an : Option Addr) (cdv ct : Value) (us ws : List Value), us.length = b.n → ws.length = b.ks.length → ∃ zs, bindArgs (PySem.W.fnOf d_law_widen.x d_law_widen.x (defArgs d_law_widen.st) (defBody d_law_widen.st) (defScope d_law_widen.st) .none kV doc pm an cdv ct) ⟨us, b.ks.zip ws⟩ = pure (d_law_widen.ps.zip zs) ∧ Picks (us ++ ws) b.pm zs := by
  intro b hb; cases hb
theorem bp_law_draw_kept : d_law_draw_kept.pos = true → ∀ (kV doc pm : Value) (an : Option Addr) (cdv ct : Value) (us : List Value), us.length = d_law_draw_kept.ps.length → bindArgs (PySem.W.fnOf d_law_draw_kept.x d_law_draw_kept.x (defArgs d_law_draw_kept.st) (defBody d_law_draw_kept.st) (defScope d_law_draw_kept.st) .none kV doc pm an cdv ct) ⟨us, []⟩ = pure (d_law_draw_kept.ps.zip us) := fun _ _ _ _ _ _ _ us hl => match us, hl with | [_, _, _, _], _ => rfl
theorem bk_law_draw_kept : ∀ b ∈ kbs, b.f = d_law_draw_kept.x → ∀ (kV doc pm : Value) (an : Option Addr) (cdv ct : Value) (us ws : List Value), us.length = b.n → ws.length = b.ks.length → ∃ zs, bindArgs (PySem.W.fnOf d_law_draw_kept.x d_law_draw_kept.x (defArgs d_law_draw_kept.st) (defBody d_law_draw_kept.st) (defScope d_law_draw_kept.st) .none kV doc pm an cdv ct) ⟨us, b.ks.zip ws⟩ = pure (d_law_draw_kept.ps.zip zs) ∧ Picks (us ++ ws) b.pm zs := by
  intro b hb; cases hb
theorem bp_law_shuffle : d_law_shuffle.pos = true → ∀ (kV doc pm : Value) (an : Option Addr) (cdv ct : Value) (us : List Value), us.length = d_law_shuffle.ps.length → bindArgs (PySem.W.fnOf d_law_shuffle.x d_law_shuffle.x (defArgs d_law_shuffle.st) (defBody d_law_shuffle.st) (defScope d_law_shuffle.st) .none kV doc pm an cdv ct) ⟨us, []⟩ = pure (d_law_shuffle.ps.zip us) := fun _ _ _ _ _ _ _ us hl => match us, hl with | [_, _], _ => rfl
theorem bk_law_shuffle : ∀ b ∈ kbs, b.f = d_law_shuffle.x → ∀ (kV doc pm : Value) (an : Option Addr) (cdv ct : Value) (us ws : List Value), us.length = b.n → ws.length = b.ks.length → ∃ zs, bindArgs (PySem.W.fnOf d_law_shuffle.x d_law_shuffle.x (defArgs d_law_shuffle.st) (defBody d_law_shuffle.st) (defScope d_law_shuffle.st) .none kV doc pm an cdv ct) ⟨us, b.ks.zip ws⟩ = pure (d_law_shuffle.ps.zip zs) ∧ Picks (us ++ ws) b.pm zs := by
  intro b hb; cases hb
theorem bp_law_rename : d_law_rename.pos = true → ∀ (kV doc pm : Value) (an : Option Addr) (cdv ct : Value) (us : List Value), us.length = d_law_rename.ps.length → bindArgs (PySem.W.fnOf d_law_rename.x d_law_rename.x (defArgs d_law_rename.st) (defBody d_law_rename.st) (defScope d_law_rename.st) .none kV doc pm an cdv ct) ⟨us, []⟩ = pure (d_law_rename.ps.zip us) := fun _ _ _ _ _ _ _ us hl => match us, hl with | [_, _, _], _ => rfl
theorem bk_law_rename : ∀ b ∈ kbs, b.f = d_law_rename.x → ∀ (kV doc pm : Value) (an : Option Addr) (cdv ct : Value) (us ws : List Value), us.length = b.n → ws.length = b.ks.length → ∃ zs, bindArgs (PySem.W.fnOf d_law_rename.x d_law_rename.x (defArgs d_law_rename.st) (defBody d_law_rename.st) (defScope d_law_rename.st) .none kV doc pm an cdv ct) ⟨us, b.ks.zip ws⟩ = pure (d_law_rename.ps.zip zs) ∧ Picks (us ++ ws) b.pm zs := by
  intro b hb; cases hb
theorem bp_law_moved : d_law_moved.pos = true → ∀ (kV doc pm : Value) (an : Option Addr) (cdv ct : Value) (us : List Value), us.length = d_law_moved.ps.length → bindArgs (PySem.W.fnOf d_law_moved.x d_law_moved.x (defArgs d_law_moved.st) (defBody d_law_moved.st) (defScope d_law_moved.st) .none kV doc pm an cdv ct) ⟨us, []⟩ = pure (d_law_moved.ps.zip us) := fun _ _ _ _ _ _ _ us hl => match us, hl with | [_, _, _], _ => rfl
theorem bk_law_moved : ∀ b ∈ kbs, b.f = d_law_moved.x → ∀ (kV doc pm : Value) (an : Option Addr) (cdv ct : Value) (us ws : List Value), us.length = b.n → ws.length = b.ks.length → ∃ zs, bindArgs (PySem.W.fnOf d_law_moved.x d_law_moved.x (defArgs d_law_moved.st) (defBody d_law_moved.st) (defScope d_law_moved.st) .none kV doc pm an cdv ct) ⟨us, b.ks.zip ws⟩ = pure (d_law_moved.ps.zip zs) ∧ Picks (us ++ ws) b.pm zs := by
  intro b hb; cases hb
theorem bp_law : d_law.pos = true → ∀ (kV doc pm : Value) (an : Option Addr) (cdv ct : Value) (us : List Value), us.length = d_law.ps.length → bindArgs (PySem.W.fnOf d_law.x d_law.x (defArgs d_law.st) (defBody d_law.st) (defScope d_law.st) .none kV doc pm an cdv ct) ⟨us, []⟩ = pure (d_law.ps.zip us) := fun _ _ _ _ _ _ _ us hl => match us, hl with | [_], _ => rfl
theorem bk_law : ∀ b ∈ kbs, b.f = d_law.x → ∀ (kV doc pm : Value) (an : Option Addr) (cdv ct : Value) (us ws : List Value), us.length = b.n → ws.length = b.ks.length → ∃ zs, bindArgs (PySem.W.fnOf d_law.x d_law.x (defArgs d_law.st) (defBody d_law.st) (defScope d_law.st) .none kV doc pm an cdv ct) ⟨us, b.ks.zip ws⟩ = pure (d_law.ps.zip zs) ∧ Picks (us ++ ws) b.pm zs := by
  intro b hb; cases hb
instance i_is_between : Fc (tbl defs) "is_between" p_is_between := ⟨rfl⟩
instance i_is_sheet : Fc (tbl defs) "is_sheet" p_is_sheet := ⟨rfl⟩
instance i_is_rising : Fc (tbl defs) "is_rising" p_is_rising := ⟨rfl⟩
instance i_are_entries : Fc (tbl defs) "are_entries" p_are_entries := ⟨rfl⟩
instance i_is_pair : Fc (tbl defs) "is_pair" p_is_pair := ⟨rfl⟩
instance i_are_partners : Fc (tbl defs) "are_partners" p_are_partners := ⟨rfl⟩
instance i_are_two_fields : Fc (tbl defs) "are_two_fields" p_are_two_fields := ⟨rfl⟩
instance i_is_rule_of : Fc (tbl defs) "is_rule_of" p_is_rule_of := ⟨rfl⟩
instance i_is_book_of : Fc (tbl defs) "is_book_of" p_is_book_of := ⟨rfl⟩
instance i_is_part_of : Fc (tbl defs) "is_part_of" p_is_part_of := ⟨rfl⟩
instance i_need_sheet : Fc (tbl defs) "need_sheet" p_need_sheet := ⟨rfl⟩
instance i_need_field : Fc (tbl defs) "need_field" p_need_field := ⟨rfl⟩
instance i_need_entry : Fc (tbl defs) "need_entry" p_need_entry := ⟨rfl⟩
instance i_need_book : Fc (tbl defs) "need_book" p_need_book := ⟨rfl⟩
instance i_need_part : Fc (tbl defs) "need_part" p_need_part := ⟨rfl⟩
instance i_forced_by : Fc (tbl defs) "forced_by" p_forced_by := ⟨rfl⟩
instance i_refuses : Fc (tbl defs) "refuses" p_refuses := ⟨rfl⟩
instance i_closure : Fc (tbl defs) "closure" p_closure := ⟨rfl⟩
instance i_first_refusal : Fc (tbl defs) "first_refusal" p_first_refusal := ⟨rfl⟩
instance i_comes_twice : Fc (tbl defs) "comes_twice" p_comes_twice := ⟨rfl⟩
instance i_clashes : Fc (tbl defs) "clashes" p_clashes := ⟨rfl⟩
instance i_part_of : Fc (tbl defs) "part_of" p_part_of := ⟨rfl⟩
instance i_followed : Fc (tbl defs) "followed" p_followed := ⟨rfl⟩
instance i_clash : Fc (tbl defs) "clash" p_clash := ⟨rfl⟩
instance i_law_pouch : Fc (tbl defs) "_law_pouch" h_pouch := ⟨rfl⟩
instance i_law_take : Fc (tbl defs) "_law_take" h_take := ⟨rfl⟩
instance i_law_draw_sizes : Fc (tbl defs) "_law_draw_sizes" h_draw_sizes := ⟨rfl⟩
instance i_law_draw_table : Fc (tbl defs) "_law_draw_table" h_draw_table := ⟨rfl⟩
instance i_law_draw_clause : Fc (tbl defs) "_law_draw_clause" h_draw_clause := ⟨rfl⟩
instance i_law_draw_clauses : Fc (tbl defs) "_law_draw_clauses" h_draw_clauses := ⟨rfl⟩
instance i_law_draw_row : Fc (tbl defs) "_law_draw_row" h_draw_row := ⟨rfl⟩
instance i_law_draw_partial : Fc (tbl defs) "_law_draw_partial" h_draw_partial := ⟨rfl⟩
instance i_law_test : Fc (tbl defs) "_law_test" h_test := ⟨rfl⟩
instance i_law_named_pair : Fc (tbl defs) "_law_named_pair" h_named_pair := ⟨rfl⟩
instance i_law_one_to_one : Fc (tbl defs) "_law_one_to_one" h_one_to_one := ⟨rfl⟩
instance i_law_widen : Fc (tbl defs) "_law_widen" h_widen := ⟨rfl⟩
instance i_law_draw_kept : Fc (tbl defs) "_law_draw_kept" h_draw_kept := ⟨rfl⟩
instance i_law_shuffle : Fc (tbl defs) "_law_shuffle" h_shuffle := ⟨rfl⟩
instance i_law_rename : Fc (tbl defs) "_law_rename" h_rename := ⟨rfl⟩
instance i_law_moved : Fc (tbl defs) "_law_moved" h_moved := ⟨rfl⟩
instance i_law : Fc (tbl defs) "law" law_k14 := ⟨rfl⟩
theorem all (ns : List Int) (h : ns.length ≤ 63) : ∃ as' g', callN (tbl defs) 30 "law" [.v (.scr ns)] [] = .ret (.v (.bl true)) as' g' := law14 (n := 22) (ss := ns)
end Q.K14
end
open PySem PySem.W PyProof.Rows
set_option maxRecDepth 100000 in
set_option maxHeartbeats 0 in
theorem PySem.Challenge.cw_eitherfields_k14_whole_other_names_holds : PySem.Challenge.rw_eitherfields_k14_whole_other_names.Holds := by
  w_on; o_law; k_head; (case hw => w_witness2)
  k_fill
  refine Q.law_walk (l := PySem.Challenge.rw_eitherfields_k14_whole_other_names) (lv := 30) (ds := Q.K14.defs) (kbs := Q.K14.kbs) (e := Q.K14.d_law) rfl (by decide) rfl ⟨rfl, by decide, by decide⟩ (fun w h Y => PySem.W.kIn_of Y) ?St Q.K14.hnd Q.K14.hd (by simp [Q.K14.defs]) rfl rfl rfl rfl Q.K14.all
  case St =>
    intro w mg fa h KX G hmg
    refine Q.stand_mk KX G ?_ ?_
    · intro d hd
      simp only [Q.K14.defs, List.mem_cons, List.not_mem_nil, or_false] at hd
      rcases hd with rfl | rfl | rfl | rfl | rfl | rfl | rfl | rfl | rfl | rfl | rfl | rfl | rfl | rfl | rfl | rfl | rfl | rfl | rfl | rfl | rfl | rfl | rfl | rfl | rfl | rfl | rfl | rfl | rfl | rfl | rfl | rfl | rfl | rfl | rfl | rfl | rfl | rfl | rfl | rfl | rfl
      · refine' Q.one_mk Q.K14.d_is_between KX G Q.K14.bp_is_between Q.K14.bk_is_between ?a ?l ?c ?k
        (case a => k_is); (case l => k_is); (case c => k_is); (case k => k_is)
      · refine' Q.one_mk Q.K14.d_is_sheet KX G Q.K14.bp_is_sheet Q.K14.bk_is_sheet ?a ?l ?c ?k
        (case a => k_is); (case l => k_is); (case c => k_is); (case k => k_is)
      · refine' Q.one_mk Q.K14.d_is_rising KX G Q.K14.bp_is_rising Q.K14.bk_is_rising ?a ?l ?c ?k
        (case a => k_is); (case l => k_is); (case c => k_is); (case k => k_is)
      · refine' Q.one_mk Q.K14.d_are_entries KX G Q.K14.bp_are_entries Q.K14.bk_are_entries ?a ?l ?c ?k
        (case a => k_is); (case l => k_is); (case c => k_is); (case k => k_is)
      · refine' Q.one_mk Q.K14.d_is_pair KX G Q.K14.bp_is_pair Q.K14.bk_is_pair ?a ?l ?c ?k
        (case a => k_is); (case l => k_is); (case c => k_is); (case k => k_is)
      · refine' Q.one_mk Q.K14.d_are_partners KX G Q.K14.bp_are_partners Q.K14.bk_are_partners ?a ?l ?c ?k
        (case a => k_is); (case l => k_is); (case c => k_is); (case k => k_is)
      · refine' Q.one_mk Q.K14.d_are_two_fields KX G Q.K14.bp_are_two_fields Q.K14.bk_are_two_fields ?a ?l ?c ?k
        (case a => k_is); (case l => k_is); (case c => k_is); (case k => k_is)
      · refine' Q.one_mk Q.K14.d_is_rule_of KX G Q.K14.bp_is_rule_of Q.K14.bk_is_rule_of ?a ?l ?c ?k
        (case a => k_is); (case l => k_is); (case c => k_is); (case k => k_is)
      · refine' Q.one_mk Q.K14.d_is_book_of KX G Q.K14.bp_is_book_of Q.K14.bk_is_book_of ?a ?l ?c ?k
        (case a => k_is); (case l => k_is); (case c => k_is); (case k => k_is)
      · refine' Q.one_mk Q.K14.d_is_part_of KX G Q.K14.bp_is_part_of Q.K14.bk_is_part_of ?a ?l ?c ?k
        (case a => k_is); (case l => k_is); (case c => k_is); (case k => k_is)
      · refine' Q.one_mk Q.K14.d_need_sheet KX G Q.K14.bp_need_sheet Q.K14.bk_need_sheet ?a ?l ?c ?k
        (case a => k_is); (case l => k_is); (case c => k_is); (case k => k_is)
      · refine' Q.one_mk Q.K14.d_need_field KX G Q.K14.bp_need_field Q.K14.bk_need_field ?a ?l ?c ?k
        (case a => k_is); (case l => k_is); (case c => k_is); (case k => k_is)
      · refine' Q.one_mk Q.K14.d_need_entry KX G Q.K14.bp_need_entry Q.K14.bk_need_entry ?a ?l ?c ?k
        (case a => k_is); (case l => k_is); (case c => k_is); (case k => k_is)
      · refine' Q.one_mk Q.K14.d_need_book KX G Q.K14.bp_need_book Q.K14.bk_need_book ?a ?l ?c ?k
        (case a => k_is); (case l => k_is); (case c => k_is); (case k => k_is)
      · refine' Q.one_mk Q.K14.d_need_part KX G Q.K14.bp_need_part Q.K14.bk_need_part ?a ?l ?c ?k
        (case a => k_is); (case l => k_is); (case c => k_is); (case k => k_is)
      · refine' Q.one_mk Q.K14.d_forced_by KX G Q.K14.bp_forced_by Q.K14.bk_forced_by ?a ?l ?c ?k
        (case a => k_is); (case l => k_is); (case c => k_is); (case k => k_is)
      · refine' Q.one_mk Q.K14.d_refuses KX G Q.K14.bp_refuses Q.K14.bk_refuses ?a ?l ?c ?k
        (case a => k_is); (case l => k_is); (case c => k_is); (case k => k_is)
      · refine' Q.one_mk Q.K14.d_closure KX G Q.K14.bp_closure Q.K14.bk_closure ?a ?l ?c ?k
        (case a => k_is); (case l => k_is); (case c => k_is); (case k => k_is)
      · refine' Q.one_mk Q.K14.d_first_refusal KX G Q.K14.bp_first_refusal Q.K14.bk_first_refusal ?a ?l ?c ?k
        (case a => k_is); (case l => k_is); (case c => k_is); (case k => k_is)
      · refine' Q.one_mk Q.K14.d_comes_twice KX G Q.K14.bp_comes_twice Q.K14.bk_comes_twice ?a ?l ?c ?k
        (case a => k_is); (case l => k_is); (case c => k_is); (case k => k_is)
      · refine' Q.one_mk Q.K14.d_clashes KX G Q.K14.bp_clashes Q.K14.bk_clashes ?a ?l ?c ?k
        (case a => k_is); (case l => k_is); (case c => k_is); (case k => k_is)
      · refine' Q.one_mk Q.K14.d_part_of KX G Q.K14.bp_part_of Q.K14.bk_part_of ?a ?l ?c ?k
        (case a => k_is); (case l => k_is); (case c => k_is); (case k => k_is)
      · refine' Q.one_mk Q.K14.d_followed KX G Q.K14.bp_followed Q.K14.bk_followed ?a ?l ?c ?k
        (case a => k_is); (case l => k_is); (case c => k_is); (case k => k_is)
      · refine' Q.one_mk Q.K14.d_clash KX G Q.K14.bp_clash Q.K14.bk_clash ?a ?l ?c ?k
        (case a => k_is); (case l => k_is); (case c => k_is); (case k => k_is)
      · refine' Q.one_mk Q.K14.d_law_pouch KX G Q.K14.bp_law_pouch Q.K14.bk_law_pouch ?a ?l ?c ?k
        (case a => k_is); (case l => k_is); (case c => k_is); (case k => k_is)
      · refine' Q.one_mk Q.K14.d_law_take KX G Q.K14.bp_law_take Q.K14.bk_law_take ?a ?l ?c ?k
        (case a => k_is); (case l => k_is); (case c => k_is); (case k => k_is)
      · refine' Q.one_mk Q.K14.d_law_draw_sizes KX G Q.K14.bp_law_draw_sizes Q.K14.bk_law_draw_sizes ?a ?l ?c ?k
        (case a => k_is); (case l => k_is); (case c => k_is); (case k => k_is)
      · refine' Q.one_mk Q.K14.d_law_draw_table KX G Q.K14.bp_law_draw_table Q.K14.bk_law_draw_table ?a ?l ?c ?k
        (case a => k_is); (case l => k_is); (case c => k_is); (case k => k_is)
      · refine' Q.one_mk Q.K14.d_law_draw_clause KX G Q.K14.bp_law_draw_clause Q.K14.bk_law_draw_clause ?a ?l ?c ?k
        (case a => k_is); (case l => k_is); (case c => k_is); (case k => k_is)
      · refine' Q.one_mk Q.K14.d_law_draw_clauses KX G Q.K14.bp_law_draw_clauses Q.K14.bk_law_draw_clauses ?a ?l ?c ?k
        (case a => k_is); (case l => k_is); (case c => k_is); (case k => k_is)
      · refine' Q.one_mk Q.K14.d_law_draw_row KX G Q.K14.bp_law_draw_row Q.K14.bk_law_draw_row ?a ?l ?c ?k
        (case a => k_is); (case l => k_is); (case c => k_is); (case k => k_is)
      · refine' Q.one_mk Q.K14.d_law_draw_partial KX G Q.K14.bp_law_draw_partial Q.K14.bk_law_draw_partial ?a ?l ?c ?k
        (case a => k_is); (case l => k_is); (case c => k_is); (case k => k_is)
      · refine' Q.one_mk Q.K14.d_law_test KX G Q.K14.bp_law_test Q.K14.bk_law_test ?a ?l ?c ?k
        (case a => k_is); (case l => k_is); (case c => k_is); (case k => k_is)
      · refine' Q.one_mk Q.K14.d_law_named_pair KX G Q.K14.bp_law_named_pair Q.K14.bk_law_named_pair ?a ?l ?c ?k
        (case a => k_is); (case l => k_is); (case c => k_is); (case k => k_is)
      · refine' Q.one_mk Q.K14.d_law_one_to_one KX G Q.K14.bp_law_one_to_one Q.K14.bk_law_one_to_one ?a ?l ?c ?k
        (case a => k_is); (case l => k_is); (case c => k_is); (case k => k_is)
      · refine' Q.one_mk Q.K14.d_law_widen KX G Q.K14.bp_law_widen Q.K14.bk_law_widen ?a ?l ?c ?k
        (case a => k_is); (case l => k_is); (case c => k_is); (case k => k_is)
      · refine' Q.one_mk Q.K14.d_law_draw_kept KX G Q.K14.bp_law_draw_kept Q.K14.bk_law_draw_kept ?a ?l ?c ?k
        (case a => k_is); (case l => k_is); (case c => k_is); (case k => k_is)
      · refine' Q.one_mk Q.K14.d_law_shuffle KX G Q.K14.bp_law_shuffle Q.K14.bk_law_shuffle ?a ?l ?c ?k
        (case a => k_is); (case l => k_is); (case c => k_is); (case k => k_is)
      · refine' Q.one_mk Q.K14.d_law_rename KX G Q.K14.bp_law_rename Q.K14.bk_law_rename ?a ?l ?c ?k
        (case a => k_is); (case l => k_is); (case c => k_is); (case k => k_is)
      · refine' Q.one_mk Q.K14.d_law_moved KX G Q.K14.bp_law_moved Q.K14.bk_law_moved ?a ?l ?c ?k
        (case a => k_is); (case l => k_is); (case c => k_is); (case k => k_is)
      · refine' Q.one_mk Q.K14.d_law KX G Q.K14.bp_law Q.K14.bk_law ?a ?l ?c ?k
        (case a => k_is); (case l => k_is); (case c => k_is); (case k => k_is)
    · intro x hx
      simp only [Q.bltNames, List.mem_cons, List.not_mem_nil, or_false] at hx
      rcases hx with rfl | rfl | rfl | rfl | rfl | rfl | rfl | rfl | rfl | rfl | rfl | rfl | rfl | rfl | rfl | rfl | rfl <;> k_is

