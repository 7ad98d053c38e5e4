import PyProof.Rows.All
import Wide.All
import OpenK.AllK
import Wide.FinOn
import HandS.ForMost
import HandS.ForExc
import HandS.Flow
import HandS.Style
import HandS.TupAny
import HandS.TupMul
import HandS.IsInst
import HandS.Zip
import HandS.Conv
import HandS.Property
import HandS.ClsMeth
import HandS.CallRecv
import HandS.CallSlots
import HandS.Defaults
import HandS.ExcInit
import KE.KExcInit
import KE.KExcSuper
import HandS.ExcField
import KE.GoesMore
import HandS.TryMany
import HandS.ExcIs
import HandS.Words
import HandS.WordsExc
import HandS.HeadEnd
import HandS.HeadHook1
import HandS.HeadHook2
import HandS.HeadNt
import HandS.EndTab
import HandS.HeadWalk
import HandS.Head0
import HandS.Head1
import HandS.Head2
import PySem.Challenge.RW_pictureframes_k03_single_steps
set_option Elab.async false
set_option linter.all false
set_option maxRecDepth 100000
/-! PF, part a: values, the own syntax, the interpreter. Core Lean. -/
namespace PF
open PySem

abbrev Tx := List Nat

/-- a value as a tree: what is read, never written -/
inductive PV where
  | non | bl (b : Bool) | int (i : Int) | str (s : Tx)
  | tup (xs : List PV) | lst (xs : List PV) | frz (xs : List PV)
  | ins (c : Nat) (fs : List PV) | dct (ks vs : List PV)

/-- what a slot holds: nothing known, a value that may stand elsewhere too, an own list, an own object -/
inductive OV where
  | emp | sh (v : PV) | lst (xs : List PV) | obj (c : Nat) (fs : List PV) | kls (c : Nat)

def OV.pv : OV → Option PV
  | .emp => none
  | .sh v => some v
  | .lst xs => some (.lst xs)
  | .obj c fs => some (.ins c fs)
  | .kls _ => none
def OV.own : OV → Bool
  | .lst _ => true
  | .obj _ _ => true
  | _ => false

structure PExc where
  c : Nat
  fs : List PV

abbrev S := List OV
inductive Res (α : Type) where
  | ok (a : α) (s : S) | exc (e : PExc) (s : S) | bad

def Res.bind {α β : Type} : Res α → (α → S → Res β) → Res β
  | .ok a s, k => k a s
  | .exc e s, _ => .exc e s
  | .bad, _ => .bad
def Res.opt {α : Type} (o : Option α) (s : S) : Res α := match o with
  | some a => .ok a s
  | none => .bad

/-! ### operations on values -/
inductive BOp where | add | sub | mul | mod | fdiv | pow
  deriving DecidableEq
inductive COp where | eq | ne | lt | le | gt | ge
  deriving DecidableEq
inductive Ty where | int | bool | str | list | tuple | dict | cls (c : Nat)
  deriving DecidableEq

def truth : PV → Option Bool
  | .non => some false
  | .bl b => some b
  | .int i => some (i != 0)
  | .str s => if s.length ≤ 16777216 then some (!s.isEmpty) else none
  | .tup xs => some (!xs.isEmpty)
  | .lst xs => some (!xs.isEmpty)
  | .frz xs => some (!xs.isEmpty)
  | .ins _ _ => none
  | .dct _ _ => none

def b2 (b : Bool) : Int := if b then 1 else 0
def strOkT (s : Tx) : Bool := s.all fun c => decide (c < 1114112)
/-! data that == may be asked of: no instances, not deeper than n -/
mutual
def eqOk : Nat → PV → Bool
  | _, .non => true
  | _, .bl _ => true
  | _, .int _ => true
  | _, .str s => strOkT s
  | 0, _ => false
  | n + 1, .tup xs => eqOks n xs
  | n + 1, .lst xs => eqOks n xs
  | _, _ => false
def eqOks : Nat → List PV → Bool
  | _, [] => true
  | n, x :: xs => eqOk n x && eqOks n xs
end
/-! == of data: as Python has it -/
mutual
def peq : PV → PV → Bool
  | .non, .non => true
  | .bl a, .bl b => a == b
  | .bl a, .int b => b2 a == b
  | .int a, .bl b => a == b2 b
  | .int a, .int b => a == b
  | .str a, .str b => a == b
  | .tup a, .tup b => peqs a b
  | .lst a, .lst b => peqs a b
  | _, _ => false
def peqs : List PV → List PV → Bool
  | [], [] => true
  | a :: as, b :: bs => peq a b && peqs as bs
  | _, _ => false
end

def big : Nat := 16777216
def bAdd : PV → PV → Option OV
  | .int a, .int b => some (.sh (.int (a + b)))
  | .lst a, .lst b => if a.length + b.length ≤ big then some (.lst (a ++ b)) else none
  | .tup a, .tup b => if a.length + b.length ≤ big then some (.sh (.tup (a ++ b))) else none
  | _, _ => none
def bSub : PV → PV → Option OV
  | .int a, .int b => some (.sh (.int (a - b)))
  | _, _ => none
def mulOk (a b : Int) : Bool := decide (a.natAbs < 18446744073709551616) || decide (b.natAbs < 18446744073709551616)
def repOk (n : Nat) (k : Int) : Bool := decide (k.natAbs < 9223372036854775808) && decide (n * k.toNat ≤ big)
theorem mul_bd {a b : Int} (h : mulOk a b = true) : (-(2 ^ 64) < a ∧ a < 2 ^ 64) ∨ (-(2 ^ 64) < b ∧ b < 2 ^ 64) := by
  unfold mulOk at h
  rw [Bool.or_eq_true, decide_eq_true_eq, decide_eq_true_eq] at h
  omega
theorem rep_bd {n : Nat} {k : Int} (h : repOk n k = true) : -(2 ^ 63) ≤ k ∧ k < 2 ^ 63 ∧ n * k.toNat ≤ big := by
  unfold repOk at h
  rw [Bool.and_eq_true, decide_eq_true_eq, decide_eq_true_eq] at h
  exact ⟨by omega, by omega, h.2⟩
def bMul : PV → PV → Option OV
  | .int a, .int b => if mulOk a b then some (.sh (.int (a * b))) else none
  | .lst a, .int k => if repOk a.length k then some (.lst (List.replicate k.toNat a).flatten) else none
  | .tup a, .int k => if k = 1 then some (.sh (.tup a)) else if 2 ≤ k ∧ k ≤ 1000 ∧ a.isEmpty = false ∧ a.length ≤ 1000 then some (.sh (.tup (List.replicate k.toNat a).flatten)) else none
  | _, _ => none
def bMod : PV → PV → Option OV
  | .int a, .int b => if 0 < b then some (.sh (.int (a % b))) else none
  | _, _ => none
def bDiv : PV → PV → Option OV
  | .int a, .int b => if 0 < b ∧ b < 1073741824 then some (.sh (.int (a / b))) else none
  | _, _ => none
def bPow : PV → PV → Option OV
  | .int a, .int b => if 0 ≤ b ∧ b ≤ 1000000 ∧ a.natAbs < 2 ^ 64 then some (.sh (.int (a ^ b.toNat))) else none
  | _, _ => none
def binop : BOp → PV → PV → Option OV
  | .add => bAdd
  | .sub => bSub
  | .mul => bMul
  | .mod => bMod
  | .fdiv => bDiv
  | .pow => bPow

def cLt : PV → PV → Option Bool
  | .int a, .int b => some (decide (a < b))
  | _, _ => none
def cLe : PV → PV → Option Bool
  | .int a, .int b => some (decide (a ≤ b))
  | _, _ => none
def cmpop : COp → PV → PV → Option Bool
  | .eq, a, b => if eqOk 16 a && eqOk 16 b then some (peq a b) else none
  | .ne, a, b => if eqOk 16 a && eqOk 16 b then some (!peq a b) else none
  | .lt, a, b => cLt a b
  | .le, a, b => cLe a b
  | .gt, a, b => cLt b a
  | .ge, a, b => cLe b a

/-- the place of an index of any sign -/
def ixN (n : Nat) (i : Int) : Option Nat := if 0 ≤ i then (if i < n then some i.toNat else none) else if -(n : Int) ≤ i then some (i + n).toNat else none
def items : PV → Option (List PV)
  | .tup xs => some xs
  | .lst xs => some xs
  | .frz xs => some xs
  | _ => none
def index (a i : PV) : Option PV := match items a, i with
  | some xs, .int k => (ixN xs.length k).bind fun j => xs[j]?
  | _, _ => none
def sIx (n d : Nat) : Option Int → Nat
  | none => d
  | some v => if v < 0 then (v + (n : Int)).toNat else min v.toNat n
def cut {α : Type} (xs : List α) (lo hi : Option Int) : List α := (xs.drop (sIx xs.length 0 lo)).take (sIx xs.length xs.length hi - sIx xs.length 0 lo)
def slice (a : PV) (lo hi : Option Int) : Option OV := match a with
  | .lst xs => some (.lst (cut xs lo hi))
  | .frz xs => some (.lst (cut xs lo hi))
  | .tup xs => some (.sh (.tup (cut xs lo hi)))
  | _ => none
def reversed (a : PV) : Option OV := match a with
  | .lst xs => some (.lst xs.reverse)
  | .frz xs => some (.lst xs.reverse)
  | .tup xs => some (.sh (.tup xs.reverse))
  | _ => none

def isTy (t : Ty) : PV → Bool
  | .non => false
  | .bl _ => decide (t = .int) || decide (t = .bool)
  | .int _ => decide (t = .int)
  | .str _ => decide (t = .str)
  | .tup _ => decide (t = .tuple)
  | .lst _ => decide (t = .list)
  | .frz _ => decide (t = .list)
  | .ins c _ => decide (t = .cls c)
  | .dct _ _ => decide (t = .dict)

/-! ### the display of a value -/
mutual
def toD : PV → Option PyData
  | .non => some .none
  | .bl b => some (.bool b)
  | .int i => some (.int i)
  | .str s => some (.str ⟨s.toArray⟩)
  | .tup xs => (toDs xs).map .tuple
  | .lst xs => (toDs xs).map .list
  | .frz xs => (toDs xs).map .list
  | _ => none
def toDs : List PV → Option (List PyData)
  | [] => some []
  | x :: xs => (toD x).bind fun d => (toDs xs).map fun r => d :: r
end
/-- a display that fits -/
def reprV (v : PV) : Option Tx := (toD v).bind fun d => if d.showable && decide (d.depth ≤ 64) && decide (d.shown.length ≤ big) then some d.shown.cps.toList else none
inductive Bi where | len | abs | max2 | min2 | tuple | list | int | all | any | sum | repr
  deriving DecidableEq

def toInts : List PV → Option (List Int)
  | [] => some []
  | .int i :: r => (toInts r).map (i :: ·)
  | _ => none
def toBls : List PV → Option (List Bool)
  | [] => some []
  | .bl i :: r => (toBls r).map (i :: ·)
  | _ => none

def bi : Bi → List PV → Option OV
  | .len, [.str s] => if s.length ≤ big then some (.sh (.int s.length)) else none
  | .len, [a] => (items a).map fun xs => .sh (.int xs.length)
  | .abs, [.int i] => some (.sh (.int (if i < 0 then -i else i)))
  | .max2, [.int a, .int b] => some (.sh (.int (if b > a then b else a)))
  | .min2, [.int a, .int b] => some (.sh (.int (if b < a then b else a)))
  | .tuple, [.tup xs] => some (.sh (.tup xs))
  | .tuple, [.lst xs] => some (.sh (.tup xs))
  | .tuple, [.frz xs] => some (.sh (.tup xs))
  | .list, [a] => (items a).map fun xs => .lst xs
  | .int, [.int i] => some (.sh (.int i))
  | .int, [.bl b] => some (.sh (.int (b2 b)))
  | .all, [.lst xs] => (toBls xs).map fun bs => .sh (.bl (bs.all id))
  | .any, [.lst xs] => (toBls xs).map fun bs => .sh (.bl (bs.any id))
  | .sum, [.lst xs] => (toInts xs).map fun ns => .sh (.int ns.sum)
  | .sum, [.frz xs] => (toInts xs).map fun ns => .sh (.int ns.sum)
  | .repr, [v] => (reprV v).map fun t => .sh (.str t)
  | _, _ => none

/-- x in y: texts in a tuple or list of flat values -/
def flatP : PV → Bool
  | .non => true
  | .bl _ => true
  | .int _ => true
  | .str _ => true
  | _ => false
def eqP : PV → PV → Bool
  | .int a, .int b => a == b
  | .bl a, .bl b => a == b
  | .str a, .str b => a == b
  | .non, .non => true
  | .bl a, .int b => b2 a == b
  | .int a, .bl b => a == b2 b
  | _, _ => false
def inop (x y : PV) : Option Bool := match y with
  | .tup xs => if flatP x && xs.all flatP then some (xs.any fun z => eqP z x) else none
  | .lst xs => if flatP x && xs.all flatP then some (xs.any fun z => eqP z x) else none
  | _ => none

/-! ### the own syntax -/
mutual
inductive Tg where
  | v (i : Nat) | t (ts : Tgs)
inductive Tgs where
  | nil | cons (t : Tg) (ts : Tgs)
end

/-- what a call is made by: c a class, f a def, n how many defaults fill up -/
inductive XO where
  | stat (f c n : Nat) | kmeth (f c n : Nat) | new (f c n : Nat) | newK (i f c n : Nat)
  deriving DecidableEq

mutual
inductive Ex where
  | int (i : Int) | bl (b : Bool) | non | str (s : Tx) | var (i : Nat) | glb (g : Nat)
  | tup (es : Exs) | lst (es : Exs)
  | bin (o : BOp) (a b : Ex) | neg (a : Ex)
  | cmp (o : COp) (a b : Ex) | chn (o p : COp) (a b c : Ex)
  | isN (ng : Bool) (a : Ex) | inn (ng : Bool) (a b : Ex)
  | not (a : Ex) | and (a b : Ex) | or (a b : Ex) | ite (c a b : Ex)
  | ix (a b : Ex) | sl (a : Ex) (lo hi : Opt) | rev (a : Ex)
  | call (f : Nat) (es : Exs) | bi (b : Bi) (es : Exs) | isi (a : Ex) (ts : List Ty) (tp : Bool)
  | fld (c k : Nat) (a : Ex) | prop (f c : Nat) (a : Ex) | meth (f c n : Nat) (a : Ex) (es : Exs) | ext (o : XO) (es : Exs) | pop (i : Nat) (e : Opt)
  | comp (elt : Ex) (tg : Tg) (src : Src) (own : List Nat) | compIf (elt : Ex) (tg : Tg) (src : Src) (c : Ex) (own : List Nat)
inductive Exs where
  | nil | cons (e : Ex) (es : Exs)
inductive Opt where
  | no | yes (e : Ex)
inductive Src where
  | seq (e : Ex) | rng (a : Ex) | rng2 (a b : Ex) | enum (e : Ex) | zip (a b : Ex)
end

/-! an except suite: the caught exception's fields, values, their display -/
mutual
inductive HEx where
  | int (i : Int) | bl (b : Bool) | non | str (s : Tx) | var (i : Nat) | fld (c k : Nat) | rpr (c k : Nat) | isx (c : Nat) | lst (es : HExs)
inductive HExs where
  | nil | cons (e : HEx) (es : HExs)
end
inductive HSt where
  | ret (e : HEx) | set (i : Nat) (e : HEx) | raiseN (c : Nat) (es : HExs) | pass
inductive Hds where
  | nil | cons (c : Nat) (i : Option Nat) (b : HSt) (r : Hds)

mutual
inductive St where
  | expr (e : Ex) | app (i : Nat) (e : Ex) | set (t : Tg) (e : Ex) | par2 (i j : Nat) (a b : Ex) | par3 (i j k : Nat) (a b c : Ex)
  | setIx (i : Nat) (k e : Ex) | aug (i : Nat) (o : BOp) (e : Ex) | augIx (i : Nat) (k : Ex) (o : BOp) (e : Ex)
  | ret (e : Ex) | retN | pass | brk | cont
  | ifs (c : Ex) (a b : Sts) | for_ (t : Tg) (src : Src) (b : Sts) | while_ (c : Ex) (b : Sts)
  | raise (c : Nat) (es : Exs) | mtch (e : Ex) (cs : Cases) | never
  | setFld (c i k : Nat) (e : Ex) | tryx (b : Sts) (hs : Hds)
inductive Sts where
  | nil | cons (s : St) (ss : Sts)
/-- match: each case a tuple of so many names (its places), a guard, a body; the last one takes all -/
inductive Cases where
  | all (b : Sts) | seq (is : List Nat) (g : Ex) (b : Sts) (r : Cases)
end

/-! ### the interpreter -/
/-- rho: a call's answer: its value, the state: what the parameters hold behind it -/
structure Env where
  glb : Nat → Option PV
  cst : Nat → List Nat
  dfl : Nat → List PV
  sub : Nat → Nat → Option Bool
  rho : Nat → List OV → Res OV

def getO (s : S) (i : Nat) : OV := s.getD i .emp
def getV (s : S) (i : Nat) : Option PV := (getO s i).pv

mutual
def asg : Tg → PV → S → Option S
  | .v i, v, s => if i < s.length then some (s.set i (.sh v)) else none
  | .t ts, .tup vs, s => asgs ts vs s
  | .t _, _, _ => none
def asgs : Tgs → List PV → S → Option S
  | .nil, [], s => some s
  | .cons t ts, v :: vs, s => (asg t v s).bind fun s' => asgs ts vs s'
  | _, _, _ => none
end
mutual
def Tg.slots : Tg → List Nat
  | .v i => [i]
  | .t ts => ts.slots
def Tgs.slots : Tgs → List Nat
  | .nil => []
  | .cons t ts => t.slots ++ ts.slots
end

inductive CA where
  | v (p : PV) | s (i : Nat)
/-- the arguments, each an own value moved out of its slot or a value -/
def takeA : List CA → S → Option (List OV × S)
  | [], s => some ([], s)
  | .v p :: r, s => (takeA r s).map fun q => (.sh p :: q.1, q.2)
  | .s i :: r, s => match getO s i with
    | .emp => none
    | .kls _ => none
    | .sh v => (takeA r s).map fun q => (.sh v :: q.1, q.2)
    | o => (takeA r (s.set i .emp)).map fun q => (o :: q.1, q.2)
/-- behind the call: s0 the state ahead of takeA -/
def putA : List CA → List OV → S → S → S
  | .s i :: r, o :: os, s0, s => match getO s0 i with
    | .sh _ => putA r os s0 s
    | _ => putA r os s0 (s.set i o)
  | .v _ :: r, _ :: os, s0, s => putA r os s0 s
  | _, _, _, s => s

def wipeS (s : S) : List Nat → S
  | [] => s
  | v :: vs => (wipeS s vs).set v .emp
/-- an own place of a comprehension holds no own object -/
def plainAt (s : S) (own : List Nat) : Bool := own.all fun i => !(getO s i).own
def back (s0 : S) (own : List Nat) (s : S) : S := own.foldr (fun i t => t.set i (getO s0 i)) s

def rngL (lo hi : Int) : List PV := (List.range (hi - lo).toNat).map fun k => .int (lo + (k : Nat))
def enumL : Nat → List PV → List PV
  | _, [] => []
  | i, x :: xs => .tup [.int (i : Nat), x] :: enumL (i + 1) xs
def zipL : List PV → List PV → List PV
  | x :: xs, y :: ys => .tup [x, y] :: zipL xs ys
  | _, _ => []

def zipP : PV → PV → Option (List PV)
  | .tup xs, .tup ys => some (zipL xs ys)
  | .lst xs, .lst ys => some (zipL xs ys)
  | _, _ => none
def argR (e : Ex) (fe : S → Res OV) (b : Bool) (s : S) : Res CA := match e with
  | .var i => if (getO s i).own && b then .ok (.s i) s else (fe s).bind fun o s' => (Res.opt o.pv s').bind fun v s'' => .ok (.v v) s''
  | _ => (fe s).bind fun o s' => (Res.opt o.pv s').bind fun v s'' => .ok (.v v) s''
/-! ### results in a row -/
def frzR (r : Res OV) : Res PV := r.bind fun o s => Res.opt o.pv s
/-- a value that is read at once: an own object stays own -/
def peek (a : Ex) (fa : S → Res OV) (s : S) : Res PV := match a with
  | .var i => Res.opt (getV s i) s
  | _ => frzR (fa s)
/-- a value that is read behind another -/
def late {α : Type} (a : Ex) (fa : S → Res OV) (k : S → Res α) (s : S) : Res (PV × α) := match a with
  | .var i => (Res.opt (getV s i) s).bind fun _ s0 => (k s0).bind fun y s' => (Res.opt (getV s' i) s').bind fun x s'' => .ok (x, y) s''
  | _ => (frzR (fa s)).bind fun x s1 => (k s1).bind fun y s2 => .ok (x, y) s2
def boolR (r : Res Bool) : Res OV := r.bind fun k s => .ok (.sh (.bl k)) s
def valR (r : Res PV) : Res OV := r.bind fun v s => .ok (.sh v) s

/-- what a loop walks: its items; the own place that is locked meanwhile -/
abbrev Lk := Option (Nat × OV)
def lockO : Lk → S → S
  | none, s => s
  | some p, s => s.set p.1 .emp
def unlock : Lk → S → S
  | none, s => s
  | some p, s => s.set p.1 p.2
def lockCs (l : Lk) (cs : List Nat) : List Nat := match l with
  | none => cs
  | some p => p.1 :: cs
def openSeq (e : Ex) (fe : S → Res OV) (s : S) : Res (PV × Lk) := match e with
  | .var i => (Res.opt (getV s i) s).bind fun v s' => .ok (v, if (getO s i).own then some (i, getO s i) else none) s'
  | _ => (frzR (fe s)).bind fun v s' => .ok (v, none) s'

/-- the turns of a comprehension -/
def compL (own : List Nat) (body : PV → S → Res (Option PV)) : List PV → List PV → S → Res (List PV)
  | [], acc, s => .ok acc s
  | x :: xs, acc, s => match body x (wipeS s own) with
    | .ok (some y) s' => compL own body xs (acc ++ [y]) s'
    | .ok none s' => compL own body xs acc s'
    | .exc _ _ => .bad
    | .bad => .bad
def asgR (tg : Tg) (x : PV) (s : S) : Res Unit := match asg tg x s with
  | some s' => .ok () s'
  | none => .bad
def compR (own : List Nat) (body : PV → S → Res (Option PV)) (q : Res (List PV × Lk)) : Res OV :=
  q.bind fun p s1 => if plainAt s1 own && decide (p.1.length ≤ big) then
    (compL own body p.1 [] (wipeS (lockO p.2 s1) own)).bind fun ys s2 => .ok (.lst ys) (unlock p.2 (back s1 own s2))
  else .bad
def callR (r : Res OV) (cas : List CA) (s1 s2 : S) : Res OV := match r with
  | .ok o outs => .ok o (putA cas outs s1 s2)
  | .exc e outs => .exc e (putA cas outs s1 s2)
  | .bad => .bad
def intR (r : Res PV) : Res Int := r.bind fun v s => match v with
  | .int i => .ok i s
  | _ => .bad
def rngOk (a b : Int) : Bool := decide (a.natAbs ≤ 2305843009213693952) && decide (b.natAbs ≤ 2305843009213693952)

/-! ### fields, methods, new objects -/
def fldOf (c k : Nat) : PV → Option PV
  | .ins c' fs => if c' = c then fs[k]? else none
  | _ => none
def insOf (c : Nat) : PV → Bool
  | .ins c' _ => decide (c' = c)
  | _ => false
def shs (vs : List PV) : List OV := vs.map .sh
/-- the last n of a def's defaults -/
def lastN (n : Nat) (ds : List PV) : List PV := ds.drop (ds.length - n)
def callV (r : Res OV) (s : S) : Res OV := match r with
  | .ok o _ => .ok o s
  | .exc e _ => .exc e s
  | .bad => .bad
def calm_ (r : Res OV) (s : S) : Res OV := match r with
  | .ok o _ => .ok o s
  | _ => .bad
def madeV (c : Nat) (r : Res OV) (s : S) : Res OV := match r with
  | .ok (.sh .non) (.obj c' fs :: _) => if c' = c then .ok (.obj c fs) s else .bad
  | .exc e _ => .exc e s
  | _ => .bad
def xev (Γ : Env) : XO → List PV → S → Res OV
  | .stat f _ n, vs, s => callV (Γ.rho f (shs (vs ++ lastN n (Γ.dfl f)))) s
  | .kmeth f c n, vs, s => callV (Γ.rho f (.kls c :: shs (vs ++ lastN n (Γ.dfl f)))) s
  | .new f c n, vs, s => madeV c (Γ.rho f (.obj c [] :: shs (vs ++ lastN n (Γ.dfl f)))) s
  | .newK _ f c n, vs, s => madeV c (Γ.rho f (.obj c [] :: shs (vs ++ lastN n (Γ.dfl f)))) s
def klsOf (c : Nat) : OV → Bool
  | .kls c' => decide (c' = c)
  | _ => false
def xok : XO → S → Bool
  | .newK i _ c _, s => klsOf c (getO s i)
  | _, _ => true
def methV (Γ : Env) (f c n : Nat) (v : PV) (vs : List PV) (s : S) : Res OV := callV (Γ.rho f (shs (v :: (vs ++ lastN n (Γ.dfl f))))) s
def popN (n : Nat) : Option Int → Option Nat
  | none => if n = 0 then none else some (n - 1)
  | some j => ixN n j
def popL (xs : List PV) (j : Option Int) : Option (PV × List PV) := if xs.length ≤ big then (popN xs.length j).bind fun k => (xs[k]?).map fun v => (v, xs.eraseIdx k) else none
def popR (i : Nat) (j : Option Int) (s : S) : Res OV := match getO s i with
  | .lst xs => match popL xs j with
    | some p => .ok (.sh p.1) (s.set i (.lst p.2))
    | none => .bad
  | _ => .bad

mutual
/-- an expression's value; an own object where it is new -/
def ev (Γ : Env) : Ex → S → Res OV
  | .int i, s => .ok (.sh (.int i)) s
  | .bl b, s => .ok (.sh (.bl b)) s
  | .non, s => .ok (.sh .non) s
  | .str x, s => .ok (.sh (.str x)) s
  | .var i, s => (Res.opt (getV s i) s).bind fun v s' => .ok (.sh v) (if (getO s i).own then s'.set i (.sh v) else s')
  | .glb g, s => (Res.opt (Γ.glb g) s).bind fun v s' => .ok (.sh v) s'
  | .tup es, s => (evs Γ es s).bind fun vs s' => .ok (.sh (.tup vs)) s'
  | .lst es, s => (evs Γ es s).bind fun vs s' => .ok (.lst vs) s'
  | .bin o a b, s => (late a (ev Γ a) (peek b (ev Γ b)) s).bind fun p s' => Res.opt (binop o p.1 p.2) s'
  | .neg a, s => (intR (frzR (ev Γ a s))).bind fun i s' => .ok (.sh (.int (-i))) s'
  | .cmp o a b, s => (late a (ev Γ a) (peek b (ev Γ b)) s).bind fun p s' => boolR (Res.opt (cmpop o p.1 p.2) s')
  | .chn o p a b c, s => (frzR (ev Γ a s)).bind fun x s1 => (frzR (ev Γ b s1)).bind fun y s2 => (Res.opt (cmpop o x y) s2).bind fun k s3 =>
      if k then (frzR (ev Γ c s3)).bind fun z s4 => boolR (Res.opt (cmpop p y z) s4) else .ok (.sh (.bl false)) s3
  | .isN ng a, s => (peek a (ev Γ a) s).bind fun v s' => .ok (.sh (.bl (match v with | .non => !ng | _ => ng))) s'
  | .inn ng a b, s => (late a (ev Γ a) (peek b (ev Γ b)) s).bind fun p s' => boolR ((Res.opt (inop p.1 p.2) s').bind fun k s'' => .ok (k != ng) s'')
  | .not a, s => (peek a (ev Γ a) s).bind fun v s' => (Res.opt (truth v) s').bind fun k s1 => .ok (.sh (.bl (!k))) s1
  | .and a b, s => (frzR (ev Γ a s)).bind fun v s' => (Res.opt (truth v) s').bind fun k s'' => if k then ev Γ b s'' else .ok (.sh v) s''
  | .or a b, s => (frzR (ev Γ a s)).bind fun v s' => (Res.opt (truth v) s').bind fun k s'' => if k then .ok (.sh v) s'' else ev Γ b s''
  | .ite c a b, s => (te Γ c s).bind fun k s' => if k then ev Γ a s' else ev Γ b s'
  | .ix a b, s => (late a (ev Γ a) (fun s' => frzR (ev Γ b s')) s).bind fun p s' => valR (Res.opt (index p.1 p.2) s')
  | .sl a lo hi, s => (late a (ev Γ a) (fun s' => (evO Γ lo s').bind fun i s1 => (evO Γ hi s1).bind fun j s2 => .ok (i, j) s2) s).bind fun p s' =>
      Res.opt (slice p.1 p.2.1 p.2.2) s'
  | .rev a, s => (peek a (ev Γ a) s).bind fun v s' => Res.opt (reversed v) s'
  | .call f es, s => (evA Γ (Γ.cst f) 0 es s).bind fun cas s1 => match takeA cas s1 with
    | none => .bad
    | some q => callR (Γ.rho f q.1) cas s1 q.2
  | .bi b es, s => (evP Γ es s).bind fun vs s' => Res.opt (bi b vs) s'
  | .isi a tys _, s => (peek a (ev Γ a) s).bind fun v s' => .ok (.sh (.bl (tys.any fun t => isTy t v))) s'
  | .fld c k a, s => (peek a (ev Γ a) s).bind fun v s' => valR (Res.opt (fldOf c k v) s')
  | .prop f c a, s => (frzR (ev Γ a s)).bind fun v s' => if insOf c v then calm_ (Γ.rho f (shs [v])) s' else .bad
  | .meth f c n a es, s => (frzR (ev Γ a s)).bind fun v s1 => if insOf c v then (evs Γ es s1).bind fun vs s2 => methV Γ f c n v vs s2 else .bad
  | .ext o es, s => if xok o s then (evs Γ es s).bind fun vs s' => xev Γ o vs s' else .bad
  | .pop i e, s => match getO s i with
    | .lst _ => (evO Γ e s).bind fun j s' => popR i j s'
    | _ => .bad
  | .comp elt tg src own, s => compR own (fun x st => (asgR tg x st).bind fun _ st' => (frzR (ev Γ elt st')).bind fun y st2 => .ok (some y) st2) (srcs Γ src s)
  | .compIf elt tg src c own, s => compR own (fun x st => (asgR tg x st).bind fun _ st' => (te Γ c st').bind fun k st1 =>
      if k then (frzR (ev Γ elt st1)).bind fun y st2 => .ok (some y) st2 else .ok none st1) (srcs Γ src s)
/-- a test -/
def te (Γ : Env) : Ex → S → Res Bool
  | .and a b, s => (te Γ a s).bind fun k s' => if k then te Γ b s' else .ok false s'
  | .or a b, s => (te Γ a s).bind fun k s' => if k then .ok true s' else te Γ b s'
  | .not a, s => (te Γ a s).bind fun k s' => .ok (!k) s'
  | .var i, s => (Res.opt (getV s i) s).bind fun v s' => Res.opt (truth v) s'
  | .int i, s => .ok (i != 0) s
  | .bl b, s => .ok b s
  | .cmp o a b, s => (late a (ev Γ a) (peek b (ev Γ b)) s).bind fun p s' => Res.opt (cmpop o p.1 p.2) s'
  | .chn o p a b c, s => (frzR (ev Γ a s)).bind fun x s1 => (frzR (ev Γ b s1)).bind fun y s2 => (Res.opt (cmpop o x y) s2).bind fun k s3 =>
      if k then (frzR (ev Γ c s3)).bind fun z s4 => Res.opt (cmpop p y z) s4 else .ok false s3
  | .isN ng a, s => (peek a (ev Γ a) s).bind fun v s' => .ok (match v with | .non => !ng | _ => ng) s'
  | .inn ng a b, s => (late a (ev Γ a) (peek b (ev Γ b)) s).bind fun p s' => (Res.opt (inop p.1 p.2) s').bind fun k s'' => .ok (k != ng) s''
  | .ite c a b, s => (te Γ c s).bind fun k s' => if k then te Γ a s' else te Γ b s'
  | .ix a b, s => (late a (ev Γ a) (fun s' => frzR (ev Γ b s')) s).bind fun p s' => (Res.opt (index p.1 p.2) s').bind fun v s1 => Res.opt (truth v) s1
  | .call f es, s => (evA Γ (Γ.cst f) 0 es s).bind fun cas s1 => match takeA cas s1 with
    | none => .bad
    | some q => (frzR (callR (Γ.rho f q.1) cas s1 q.2)).bind fun v s2 => Res.opt (truth v) s2
  | .bi b es, s => (evP Γ es s).bind fun vs s' => (frzR (Res.opt (bi b vs) s')).bind fun v s1 => Res.opt (truth v) s1
  | .isi a tys _, s => (peek a (ev Γ a) s).bind fun v s' => .ok (tys.any fun t => isTy t v) s'
  | .fld c k a, s => (frzR ((peek a (ev Γ a) s).bind fun v s' => valR (Res.opt (fldOf c k v) s'))).bind fun v s1 => Res.opt (truth v) s1
  | .prop f c a, s => (frzR ((frzR (ev Γ a s)).bind fun v s' => if insOf c v then calm_ (Γ.rho f (shs [v])) s' else .bad)).bind fun v s1 => Res.opt (truth v) s1
  | .meth f c n a es, s => (frzR ((frzR (ev Γ a s)).bind fun v s1 => if insOf c v then (evs Γ es s1).bind fun vs s2 => methV Γ f c n v vs s2 else .bad)).bind fun v s1 => Res.opt (truth v) s1
  | .ext o es, s => (frzR (if xok o s then (evs Γ es s).bind fun vs s' => xev Γ o vs s' else .bad)).bind fun v s1 => Res.opt (truth v) s1
  | _, _ => .bad
def evs (Γ : Env) : Exs → S → Res (List PV)
  | .nil, s => .ok [] s
  | .cons e es, s => (frzR (ev Γ e s)).bind fun v s' => (evs Γ es s').bind fun vs s'' => .ok (v :: vs) s''
/-- a built-in's arguments: one alone is read at once -/
def evP (Γ : Env) : Exs → S → Res (List PV)
  | .nil, s => .ok [] s
  | .cons e .nil, s => (peek e (ev Γ e) s).bind fun v s' => .ok [v] s'
  | .cons e es, s => (frzR (ev Γ e s)).bind fun v s' => (evs Γ es s').bind fun vs s'' => .ok (v :: vs) s''
def evA (Γ : Env) (cs : List Nat) : Nat → Exs → S → Res (List CA)
  | _, .nil, s => .ok [] s
  | k, .cons e es, s => (argR e (ev Γ e) (cs.contains k) s).bind fun c s' => (evA Γ cs (k + 1) es s').bind fun r s'' => .ok (c :: r) s''
def evO (Γ : Env) : Opt → S → Res (Option Int)
  | .no, s => .ok none s
  | .yes e, s => (intR (frzR (ev Γ e s))).bind fun i s' => .ok (some i) s'
def srcs (Γ : Env) : Src → S → Res (List PV × Lk)
  | .seq e, s => (openSeq e (ev Γ e) s).bind fun p s' => (Res.opt (items p.1) s').bind fun xs s'' => .ok (xs, p.2) s''
  | .rng a, s => (intR (frzR (ev Γ a s))).bind fun n s' => if rngOk 0 n then .ok (rngL 0 n, none) s' else .bad
  | .rng2 a b, s => (intR (frzR (ev Γ a s))).bind fun m s1 => (intR (frzR (ev Γ b s1))).bind fun n s' => if rngOk m n then .ok (rngL m n, none) s' else .bad
  | .enum e, s => (openSeq e (ev Γ e) s).bind fun p s' => (Res.opt (items p.1) s').bind fun xs s'' => .ok (enumL 0 xs, p.2) s''
  | .zip a b, s => (frzR (ev Γ a s)).bind fun x s1 => (frzR (ev Γ b s1)).bind fun y s2 => (Res.opt (zipP x y) s2).bind fun xs s3 => .ok (xs, none) s3
end

/-! ### statements -/
inductive Fl where
  | nx | rt (o : OV) | bk | ct
def setV (cs : List Nat) (i : Nat) (o : OV) (s : S) : Res Fl := if decide (i < s.length) && !cs.contains i then .ok .nx (s.set i o) else .bad
def asgF (cs : List Nat) (t : Tg) (v : PV) (s : S) : Res Fl := if t.slots.all (fun i => !cs.contains i) then (asgR t v s).bind fun _ s' => .ok .nx s' else .bad

/-- the turns of a for -/
def forL (turn : PV → S → Res Fl) : List PV → S → Res Fl
  | [], s => .ok .nx s
  | x :: xs, s => (turn x s).bind fun f s' => match f with
    | .nx => forL turn xs s'
    | .ct => forL turn xs s'
    | .bk => .ok .nx s'
    | .rt o => .ok (.rt o) s'
/-- the turns of a while, at most so many -/
def whileL (c : S → Res Bool) (b : S → Res Fl) : Nat → S → Res Fl
  | 0, _ => .bad
  | n + 1, s => (c s).bind fun k s1 => if k then (b s1).bind fun f s' => match f with
      | .nx => whileL c b n s'
      | .ct => whileL c b n s'
      | .bk => .ok .nx s'
      | .rt o => .ok (.rt o) s'
    else .ok .nx s1
def wf : Nat := 100000
def unlockR (l : Lk) : Res Fl → Res Fl
  | .ok f s => .ok f (unlock l s)
  | .exc e s => .exc e (unlock l s)
  | .bad => .bad
def appR (i : Nat) (v : PV) (s : S) : Res Fl := match getO s i with
  | .lst xs => if xs.length < big then .ok .nx (s.set i (.lst (xs ++ [v]))) else .bad
  | _ => .bad
def setIxR (i : Nat) (k : PV) (v : PV) (s : S) : Res Fl := match getO s i, k with
  | .lst xs, .int k => (match ixN xs.length k with
    | some j => .ok .nx (s.set i (.lst (xs.set j v)))
    | none => .bad)
  | _, _ => .bad
/-- the names of a case, from the first -/
def bindAll : List Nat → List PV → S → S
  | i :: is, v :: vs, s => bindAll is vs (s.set i (.sh v))
  | _, _, s => s

def idxO : OV → Int → Option PV
  | .lst xs, j => (ixN xs.length j).bind fun k => xs[k]?
  | _, _ => none
/-- a op= b of ints -/
def augop : BOp → Int → Int → Option Int
  | .add, a, b => some (a + b)
  | .sub, a, b => some (a - b)
  | .fdiv, a, b => if 0 < b ∧ b < 1073741824 then some (a / b) else none
  | .mod, a, b => if 0 < b then some (a % b) else none
  | .mul, a, b => if mulOk a b then some (a * b) else none
  | .pow, _, _ => none

/-! ### except suites -/
mutual
def hev (Γ : Env) (x : PExc) : HEx → S → Res OV
  | .int i, s => .ok (.sh (.int i)) s
  | .bl b, s => .ok (.sh (.bl b)) s
  | .non, s => .ok (.sh .non) s
  | .str t, s => .ok (.sh (.str t)) s
  | .var i, s => (Res.opt (getV s i) s).bind fun v s' => .ok (.sh v) (if (getO s i).own then s'.set i (.sh v) else s')
  | .fld c k, s => if x.c = c then Res.opt ((x.fs[k]?).map .sh) s else .bad
  | .rpr c k, s => if x.c = c then Res.opt ((x.fs[k]?).bind fun v => (reprV v).map fun t => .sh (.str t)) s else .bad
  | .isx c, s => Res.opt ((Γ.sub x.c c).map fun b => .sh (.bl b)) s
  | .lst es, s => (hevs Γ x es s).bind fun vs s' => .ok (.lst vs) s'
def hevs (Γ : Env) (x : PExc) : HExs → S → Res (List PV)
  | .nil, s => .ok [] s
  | .cons e es, s => (frzR (hev Γ x e s)).bind fun v s' => (hevs Γ x es s').bind fun vs s'' => .ok (v :: vs) s''
end
def hex (Γ : Env) (cs : List Nat) (x : PExc) : HSt → S → Res Fl
  | .ret e, s => (hev Γ x e s).bind fun o s' => .ok (.rt o) s'
  | .set i e, s => (hev Γ x e s).bind fun o s' => setV cs i o s'
  | .raiseN _ _, _ => .bad
  | .pass, s => .ok .nx s
/-- the caught exception's name stands for nothing else; behind the suite it is gone -/
def hslot (cs : List Nat) : Option Nat → S → Option S
  | none, s => some s
  | some i, s => if decide (i < s.length) && !cs.contains i then some (s.set i .emp) else none
def hgone : Option Nat → S → S
  | none, s => s
  | some i, s => s.set i .emp
def hgoneR (i : Option Nat) : Res Fl → Res Fl
  | .ok f s => .ok f (hgone i s)
  | r => r
def noX : Res Fl → Res Fl
  | .exc _ _ => .bad
  | r => r
def hds (Γ : Env) (cs : List Nat) (x : PExc) : Hds → S → Res Fl
  | .nil, s => .exc x s
  | .cons c i b r, s => match Γ.sub x.c c with
    | some true => (match hslot cs i s with
      | some s' => hgoneR i (noX (hex Γ cs x b s'))
      | none => .bad)
    | some false => hds Γ cs x r s
    | none => .bad
def tryR (h : PExc → S → Res Fl) : Res Fl → Res Fl
  | .exc e s => h e s
  | r => r
def setFldR (c i k : Nat) (v : PV) (s : S) : Res Fl := match getO s i with
  | .obj c' fs => if c' = c ∧ k = fs.length then .ok .nx (s.set i (.obj c (fs ++ [v]))) else .bad
  | _ => .bad

mutual
def ex (Γ : Env) : List Nat → St → S → Res Fl
  | _, .expr e, s => (frzR (ev Γ e s)).bind fun _ s' => .ok .nx s'
  | _, .app i e, s => match getO s i with
    | .lst _ => (frzR (ev Γ e s)).bind fun v s' => appR i v s'
    | _ => .bad
  | cs, .set t e, s => match t with
    | .v i => (ev Γ e s).bind fun o s' => setV cs i o s'
    | t => (frzR (ev Γ e s)).bind fun v s' => asgF cs t v s'
  | cs, .par2 i j a b, s => (ev Γ a s).bind fun x s1 => (ev Γ b s1).bind fun y s2 => (setV cs i x s2).bind fun _ s3 => setV cs j y s3
  | cs, .par3 i j k a b c, s => (ev Γ a s).bind fun x s1 => (ev Γ b s1).bind fun y s2 => (ev Γ c s2).bind fun z s3 =>
      (setV cs i x s3).bind fun _ s4 => (setV cs j y s4).bind fun _ s5 => setV cs k z s5
  | _, .setIx i k e, s => (frzR (ev Γ e s)).bind fun v s1 => match getO s1 i with
    | .lst _ => (frzR (ev Γ k s1)).bind fun j s2 => setIxR i j v s2
    | _ => .bad
  | cs, .aug i o e, s => (intR (Res.opt (getV s i) s)).bind fun x s0 => (intR (frzR (ev Γ e s0))).bind fun y s1 => (Res.opt (augop o x y) s1).bind fun z s2 => setV cs i (.sh (.int z)) s2
  | _, .augIx i k o e, s => match getO s i with
    | .lst _ => (intR (frzR (ev Γ k s))).bind fun j s1 => (intR (Res.opt (idxO (getO s1 i) j) s1)).bind fun x s2 =>
      (intR (frzR (ev Γ e s2))).bind fun y s3 => (Res.opt (augop o x y) s3).bind fun z s4 => setIxR i (.int j) (.int z) s4
    | _ => .bad
  | _, .ret e, s => (ev Γ e s).bind fun o s' => .ok (.rt o) s'
  | _, .retN, s => .ok (.rt (.sh .non)) s
  | _, .pass, s => .ok .nx s
  | _, .brk, s => .ok .bk s
  | _, .cont, s => .ok .ct s
  | cs, .ifs c a b, s => (te Γ c s).bind fun k s' => if k then exs Γ cs a s' else exs Γ cs b s'
  | cs, .for_ t src b, s => (srcs Γ src s).bind fun p s1 =>
      unlockR p.2 (forL (fun x st => (asgF (lockCs p.2 cs) t x st).bind fun _ st' => exs Γ (lockCs p.2 cs) b st') p.1 (lockO p.2 s1))
  | cs, .while_ c b, s => whileL (te Γ c) (exs Γ cs b) wf s
  | _, .raise c es, s => (evs Γ es s).bind fun vs s' => .exc ⟨c, vs⟩ s'
  | cs, .mtch e r, s => (frzR (ev Γ e s)).bind fun v s' => exm Γ cs v r s'
  | _, .never, _ => .bad
  | _, .setFld c i k e, s => (frzR (ev Γ e s)).bind fun v s' => setFldR c i k v s'
  | cs, .tryx b hs, s => tryR (fun x s' => hds Γ cs x hs s') (exs Γ cs b s)
def exs (Γ : Env) : List Nat → Sts → S → Res Fl
  | _, .nil, s => .ok .nx s
  | cs, .cons a r, s => (ex Γ cs a s).bind fun f s' => match f with
    | .nx => exs Γ cs r s'
    | f => .ok f s'
def exm (Γ : Env) : List Nat → PV → Cases → S → Res Fl
  | cs, _, .all b, s => exs Γ cs b s
  | cs, v, .seq is g b r, s => match v with
    | .tup vs => if vs.length = is.length then
        (if is.all (fun i => decide (i < s.length) && !cs.contains i) then (te Γ g (bindAll is vs s)).bind fun k s' => if k then exs Γ cs b s' else exm Γ cs v r s' else .bad)
      else exm Γ cs v r s
    | _ => .bad
end

/-! ### defs -/
structure Fn where
  nm : List Tx
  np : Nat
  cst : List Nat
  body : Sts
  dfl : List PV := []
abbrev Prog := List Fn
def outsOf (fn : Fn) (s : S) : List OV := (List.range fn.np).map fun k => if fn.cst.contains k then getO s k else .emp
def runBody (Γ : Env) (fn : Fn) (args : List OV) : Res OV :=
  if args.length = fn.np then
    match exs Γ fn.cst fn.body (args ++ List.replicate (fn.nm.length - fn.np) .emp) with
    | .ok .nx s => .ok (.sh .non) (outsOf fn s)
    | .ok (.rt o) s => .ok o (outsOf fn s)
    | .exc e s => .exc e (outsOf fn s)
    | _ => .bad
  else .bad
/-- what a program has beside its defs: its constants, what is caught by what -/
structure Tb where
  glb : Nat → Option PV
  sub : Nat → Nat → Option Bool
def callD (P : Prog) (tb : Tb) : Nat → Nat → List OV → Res OV
  | 0, _, _ => .bad
  | d + 1, f, args => match P[f]? with
    | none => .bad
    | some fn => runBody ⟨tb.glb, fun g => (P[g]?).elim [] Fn.cst, fun g => (P[g]?).elim [] Fn.dfl, tb.sub, callD P tb d⟩ fn args

/-! ### the checker: an own text is the program's -/
def mkS (t : Tx) : Str := ⟨t.toArray⟩
/-- how a def of a class is had -/
inductive MK where | prop | meth | stat | kmeth | init
  deriving DecidableEq
structure GN where
  glb : Nat → Option Tx
  fn : Nat → Option Tx
  cls : Nat → Option Tx
  fld : Nat → Nat → Option Tx
  mth : Nat → Option (Nat × Tx × MK)
  dfl : Nat → Nat → Bool
  exc : Nat → Option Tx
  xfl : Nat → Nat → Option Tx
def isNm (N : List Tx) (i : Nat) (x : Str) : Bool := match N[i]? with
  | some t => decide (mkS t = x)
  | none => false
def isO (o : Option Tx) (x : Str) : Bool := match o with
  | some t => decide (mkS t = x)
  | none => false
def noDbg (x : Str) : Bool := !(x == ("__debug__" : Str)) && !(x == ("__classdict__" : Str))
def visB (sc : Scope) (x : Str) : Bool := match sc.names.lookup x with
  | some .local => true
  | some .cell => true
  | some .free => true
  | _ => false
def glB (sc : Scope) (x : Str) : Bool := decide (sc.names.lookup x = some .globalImplicit) && noDbg x
def locB (sc : Scope) (fnc : Str → Bool) (x : Str) : Bool := match sc.names.lookup x with
  | some .local => true
  | some .cell => fnc x
  | _ => false
def opB : BOp → Operator → Bool
  | .add, .Add => true
  | .sub, .Sub => true
  | .mul, .Mult => true
  | .mod, .Mod => true
  | .fdiv, .FloorDiv => true
  | .pow, .Pow => true
  | _, _ => false
def opC : COp → CmpOp → Bool
  | .eq, .Eq => true
  | .ne, .NotEq => true
  | .lt, .Lt => true
  | .le, .LtE => true
  | .gt, .Gt => true
  | .ge, .GtE => true
  | _, _ => false
def biS : Bi → Str
  | .len => "len" | .abs => "abs" | .max2 => "max" | .min2 => "min" | .tuple => "tuple" | .list => "list" | .int => "int" | .all => "all" | .any => "any" | .sum => "sum" | .repr => "repr"
def tyS : Ty → Option Str
  | .int => some "int" | .bool => some "bool" | .str => some "str" | .list => some "list" | .tuple => some "tuple" | .dict => some "dict" | .cls _ => none
def nStar : Expr → Bool
  | .Starred _ _ => false
  | _ => true
def chkTy (gn : GN) (sc : Scope) (t : Ty) : Expr → Bool
  | .Name x _ => glB sc x && (match t with
    | .cls c => isO (gn.cls c) x
    | t => decide (tyS t = some x))
  | _ => false
def chkTys (gn : GN) (sc : Scope) : List Ty → List Expr → Bool
  | [], [] => true
  | t :: ts, e :: es => chkTy gn sc t e && chkTys gn sc ts es
  | _, _ => false
def chkIs (gn : GN) (sc : Scope) : Bool → List Ty → Expr → Bool
  | false, [ty], t => chkTy gn sc ty t
  | true, ts, .Tuple l _ _ => decide (l.length ≤ 1000) && chkTys gn sc ts l
  | _, _, _ => false
def isTup : Expr → Bool
  | .Tuple _ _ _ => true
  | _ => false
def slB : Expr → Option (Option Expr × Option Expr)
  | .Slice lo hi none _ => some (lo, hi)
  | _ => none
def ownP (N : List Tx) (own : List Nat) : List (Str × Nat) := own.filterMap fun i => (N[i]?).map fun t => (mkS t, i)

mutual
def chkT (N : List Tx) (sc : Scope) (fnc : Str → Bool) : Tg → Expr → Bool
  | .v i, e => (match e with
    | .Name x _ => isNm N i x && locB sc fnc x
    | _ => false)
  | .t ts, e => (match e with
    | .Tuple es _ _ => chkTs N sc fnc ts es
    | _ => false)
def chkTs (N : List Tx) (sc : Scope) (fnc : Str → Bool) : Tgs → List Expr → Bool
  | .nil, es => (match es with
    | [] => true
    | _ => false)
  | .cons t ts, es => (match es with
    | e :: es => chkT N sc fnc t e && chkTs N sc fnc ts es
    | _ => false)
end
def blkB (N : List Tx) (sc scope : Scope) (own : List Nat) : Bool := L2.blkC (N.map mkS) sc scope (ownP N own) && decide ((ownP N own).map (·.2) = own)
def fncOf (scope : Scope) : Str → Bool := fun x => scope.names.lookup x == some .cell

/-- the def f is had as m of the class c -/
def mthB (gn : GN) (f c : Nat) (k : MK) (m : Str) : Bool := match gn.mth f with
  | some (c', t, k') => decide (c' = c) && decide (mkS t = m) && decide (k' = k)
  | none => false
def clsNm (gn : GN) (sc : Scope) (c : Nat) : Expr → Bool
  | .Name x _ => isO (gn.cls c) x && glB sc x
  | _ => false
/-- no super() -/
def baseB : Expr → Bool
  | .Call (.Name x _) [] [] _ => x != ("super" : Str)
  | _ => true
def varB (N : List Tx) (sc : Scope) (i : Nat) : Expr → Bool
  | .Name x _ => isNm N i x && visB sc x && noDbg x
  | _ => false
/-- the argument of pop -/
def oneB : List Expr → Option (Option Expr)
  | [] => some none
  | [y] => some (some y)
  | _ => none
/-- the parts of such a call -/
def splitX (gn : GN) (N : List Tx) (sc : Scope) : XO → Expr → Option (List Expr)
  | .stat f c n, e => (match e with
    | .Call (.Attribute x m ap) l [] cp => if mthB gn f c .stat m && clsNm gn sc c x && gn.dfl f n && (ap.endLine == cp.line) && decide (l.length ≤ 20) then some l else none
    | _ => none)
  | .kmeth f c n, e => (match e with
    | .Call (.Attribute x m ap) l [] cp => if mthB gn f c .kmeth m && clsNm gn sc c x && gn.dfl f n && (ap.endLine == cp.line) && decide (l.length ≤ 20) then some l else none
    | _ => none)
  | .new f c n, e => (match e with
    | .Call x l [] _ => if mthB gn f c .init "__init__" && clsNm gn sc c x && gn.dfl f n then some l else none
    | _ => none)
  | .newK i f c n, e => (match e with
    | .Call (.Name x _) l [] _ => if mthB gn f c .init "__init__" && isNm N i x && locB sc (fun _ => true) x && noDbg x && gn.dfl f n then some l else none
    | _ => none)
mutual
def chk (gn : GN) (N : List Tx) (sc : Scope) : Ex → Expr → Bool
  | .int i, e => (match e with
    | .Constant (.int j) _ _ => decide (i = j)
    | _ => false)
  | .bl b, e => (match e with
    | .Constant (.bool c) _ _ => b == c
    | _ => false)
  | .non, e => (match e with
    | .Constant .none _ _ => true
    | _ => false)
  | .str t, e => (match e with
    | .Constant (.str x) _ _ => decide (mkS t = x)
    | _ => false)
  | .var i, e => (match e with
    | .Name x _ => isNm N i x && visB sc x && noDbg x
    | _ => false)
  | .glb g, e => (match e with
    | .Name x _ => isO (gn.glb g) x && glB sc x
    | _ => false)
  | .tup es, e => (match e with
    | .Tuple l _ _ => decide (l.length ≤ 1000) && chks gn N sc es l
    | _ => false)
  | .lst es, e => (match e with
    | .List l _ => decide (l.length ≤ 1000) && chks gn N sc es l
    | _ => false)
  | .bin o a b, e => (match e with
    | .BinOp l op r _ => opB o op && chk gn N sc a l && chk gn N sc b r
    | _ => false)
  | .neg a, e => (match e with
    | .UnaryOp .USub x _ => chk gn N sc a x
    | _ => false)
  | .cmp o a b, e => (match e with
    | .Compare l [op] [r] _ => opC o op && chk gn N sc a l && chk gn N sc b r
    | _ => false)
  | .chn o p a b c, e => (match e with
    | .Compare l [op, op2] [m, r] _ => opC o op && opC p op2 && chk gn N sc a l && chk gn N sc b m && chk gn N sc c r
    | _ => false)
  | .isN ng a, e => (match e with
    | .Compare l [op] [.Constant .none _ _] _ => decide (op = if ng then .IsNot else .Is) && chk gn N sc a l
    | _ => false)
  | .inn ng a b, e => (match e with
    | .Compare l [op] [r] _ => decide (op = if ng then .NotIn else .In) && !behindInMarks op r && chk gn N sc a l && chk gn N sc b r
    | _ => false)
  | .not a, e => (match e with
    | .UnaryOp .Not x _ => chk gn N sc a x
    | _ => false)
  | .and a b, e => (match e with
    | .BoolOp .And (x :: y :: r) p => chk gn N sc a x && (match r with
      | [] => chk gn N sc b y
      | _ => chk gn N sc b (.BoolOp .And (y :: r) p))
    | _ => false)
  | .or a b, e => (match e with
    | .BoolOp .Or (x :: y :: r) p => chk gn N sc a x && (match r with
      | [] => chk gn N sc b y
      | _ => chk gn N sc b (.BoolOp .Or (y :: r) p))
    | _ => false)
  | .ite c a b, e => (match e with
    | .IfExp t x y _ => chk gn N sc c t && chk gn N sc a x && chk gn N sc b y
    | _ => false)
  | .ix a b, e => (match e with
    | .Subscript x i _ => (slB i).isNone && chk gn N sc a x && chk gn N sc b i
    | _ => false)
  | .sl a lo hi, e => (match e with
    | .Subscript x i _ => (match slB i with
      | some (l, h) => chk gn N sc a x && chkO gn N sc lo l && chkO gn N sc hi h
      | none => false)
    | _ => false)
  | .rev a, e => (match e with
    | .Subscript x (.Slice none none (some (.UnaryOp .USub (.Constant (.int i) _ _) _)) _) _ => decide (i = 1) && chk gn N sc a x
    | _ => false)
  | .call f es, e => (match e with
    | .Call (.Name x _) l [] _ => isO (gn.fn f) x && glB sc x && chks gn N sc es l
    | _ => false)
  | .bi b es, e => (match e with
    | .Call (.Name x _) l [] _ => decide (biS b = x) && glB sc x && chks gn N sc es l
    | _ => false)
  | .isi a ts tp, e => (match e with
    | .Call (.Name x _) [y, t] [] _ => decide (x = ("isinstance" : Str)) && glB sc x && chk gn N sc a y && chkIs gn sc tp ts t
    | _ => false)
  | .fld c k a, e => (match e with
    | .Attribute x m _ => isO (gn.fld c k) m && baseB x && chk gn N sc a x
    | _ => false)
  | .prop f c a, e => (match e with
    | .Attribute x m _ => mthB gn f c .prop m && baseB x && gn.dfl f 0 && chk gn N sc a x
    | _ => false)
  | .meth f c n a es, e => (match e with
    | .Call (.Attribute x m ap) l [] cp => mthB gn f c .meth m && baseB x && gn.dfl f n && (ap.endLine == cp.line) && decide (l.length ≤ 20) && chk gn N sc a x && chks gn N sc es l
    | _ => false)
  | .ext o es, e => (match splitX gn N sc o e with
    | some l => chks gn N sc es l
    | none => false)
  | .pop i o, e => (match e with
    | .Call (.Attribute x m ap) l [] cp => decide (m = ("pop" : Str)) && (ap.endLine == cp.line) && varB N sc i x && (match oneB l with
      | some y => chkO gn N sc o y
      | none => false)
    | _ => false)
  | .comp elt tg src own, e => (match e with
    | .ListComp x [⟨t, it, [], z⟩] scope _ => decide (z = 0) && blkB N sc scope own && chk gn N (L2.relS scope sc) elt x && chkT N (L2.relS scope sc) (fncOf scope) tg t && chkS gn N sc src it t && tg.slots.all own.contains
    | _ => false)
  | .compIf elt tg src c own, e => (match e with
    | .ListComp x [⟨t, it, [c'], z⟩] scope _ => decide (z = 0) && blkB N sc scope own && chk gn N (L2.relS scope sc) elt x && chkT N (L2.relS scope sc) (fncOf scope) tg t && chkS gn N sc src it t && chk gn N (L2.relS scope sc) c c' && tg.slots.all own.contains
    | _ => false)
def chks (gn : GN) (N : List Tx) (sc : Scope) : Exs → List Expr → Bool
  | .nil, l => l.isEmpty
  | .cons e es, l => (match l with
    | x :: r => chk gn N sc e x && chks gn N sc es r
    | _ => false)
def chkO (gn : GN) (N : List Tx) (sc : Scope) : Opt → Option Expr → Bool
  | .no, o => o.isNone
  | .yes e, o => (match o with
    | some x => chk gn N sc e x
    | none => false)
def chkS (gn : GN) (N : List Tx) (sc : Scope) : Src → Expr → Expr → Bool
  | .seq a, e, _ => chk gn N sc a e
  | .rng a, e, _ => (match e with
    | .Call (.Name x _) [y] [] _ => decide (x = ("range" : Str)) && glB sc x && chk gn N sc a y
    | _ => false)
  | .rng2 a b, e, _ => (match e with
    | .Call (.Name x _) [y, z] [] _ => decide (x = ("range" : Str)) && glB sc x && chk gn N sc a y && chk gn N sc b z
    | _ => false)
  | .enum a, e, t => (match e with
    | .Call (.Name x _) [y] [] _ => decide (x = ("enumerate" : Str)) && glB sc x && chk gn N sc a y && isTup t
    | _ => false)
  | .zip a b, e, t => (match e with
    | .Call (.Name x _) [y, z] [] _ => decide (x = ("zip" : Str)) && glB sc x && chk gn N sc a y && chk gn N sc b z && isTup t
    | _ => false)
end

/-! ### statements: the checker -/
def isComp : Expr → Bool
  | .ListComp _ _ _ _ => true
  | .SetComp _ _ _ _ => true
  | .DictComp _ _ _ _ _ => true
  | _ => false
/-- name = [..]: the answer of the model's test whether the name is stored ahead -/
def swB (sc : Scope) (x : Str) (px : Pos) : Expr → Bool
  | .ListComp _ _ s p => (sc.names.lookup x == some .local) && (px.line == p.line) && !(s.names.any fun y => y.1 == x && (y.2 == .local || y.2 == .cell))
  | _ => false
def lone : Expr → Bool
  | .SetComp _ _ _ _ => false
  | .DictComp _ _ _ _ _ => false
  | _ => true
def isNmL (N : List Tx) (sc : Scope) (i : Nat) : Expr → Bool
  | .Name x _ => isNm N i x && locB sc (fun _ => true) x
  | _ => false
def isLocal (sc : Scope) : Expr → Bool
  | .Name x _ => decide (sc.names.lookup x = some .local)
  | _ => false
/-- a, b = .., the targets' line, and no fold of all -/
def nmPos : Expr → Option Pos
  | .Name _ p => some p
  | _ => none
def parB (ts vs : List Expr) : Bool := (match ts with
  | t :: _ => ts.all fun u => (u.pos.line == t.pos.line)
  | [] => false) && !vs.all (foldedForSure 8) && !vs.all (constantsAlone 8)
def notSub : Expr → Bool
  | .Slice _ _ _ _ => false
  | _ => true
def capNames : List Pattern → Option (List Str)
  | [] => some []
  | .MatchAs none (some x) _ :: r => (capNames r).map (x :: ·)
  | _ => none
def nmsOk (N : List Tx) (sc : Scope) : List Nat → List Str → Bool
  | [], [] => true
  | i :: is, x :: xs => isNm N i x && locB sc (fun _ => true) x && nmsOk N sc is xs
  | _, _ => false
/-- the targets' stores are not swapped -/
def notTup : Expr → Bool
  | .Tuple _ _ _ => false
  | _ => true

def notSw (sc : Scope) (tg y : Expr) : Bool := notTup y || (match tg with
  | .Name _ _ => true
  | .Tuple ts _ _ => ts.any fun t => !isLocal sc t
  | _ => false)

/-! except suites -/
mutual
def chkH (gn : GN) (N : List Tx) (sc : Scope) (xn : Option Str) (xc : Nat) : HEx → Expr → Bool
  | .int i, e => (match e with
    | .Constant (.int j) _ _ => decide (i = j)
    | _ => false)
  | .bl b, e => (match e with
    | .Constant (.bool c) _ _ => b == c
    | _ => false)
  | .non, e => (match e with
    | .Constant .none _ _ => true
    | _ => false)
  | .str t, e => (match e with
    | .Constant (.str x) _ _ => decide (mkS t = x)
    | _ => false)
  | .var i, e => varB N sc i e
  | .fld c k, e => (match e with
    | .Attribute (.Name x _) m _ => decide (some x = xn) && decide (c = xc) && noDbg x && isO (gn.xfl xc k) m
    | _ => false)
  | .rpr c k, e => (match e with
    | .Call (.Name r _) [.Attribute (.Name x _) m _] [] _ => decide (r = ("repr" : Str)) && glB sc r && decide (some x = xn) && decide (c = xc) && noDbg x && isO (gn.xfl xc k) m
    | _ => false)
  | .isx _, _ => false
  | .lst es, e => (match e with
    | .List l _ => decide (l.length ≤ 1000) && chkHs gn N sc xn xc es l
    | _ => false)
def chkHs (gn : GN) (N : List Tx) (sc : Scope) (xn : Option Str) (xc : Nat) : HExs → List Expr → Bool
  | .nil, l => l.isEmpty
  | .cons e es, l => (match l with
    | x :: r => chkH gn N sc xn xc e x && chkHs gn N sc xn xc es r
    | _ => false)
end
def chkHSt (gn : GN) (N : List Tx) (sc : Scope) (xn : Option Str) (xc : Nat) : HSt → List Stmt → Bool
  | .ret e, l => (match l with
    | [.Return (some x) _] => chkH gn N sc xn xc e x
    | _ => false)
  | .set i e, l => (match l with
    | [.Assign [tg] y _] => notTup y && lone y && isNmL N sc i tg && chkH gn N sc xn xc e y
    | _ => false)
  | .raiseN _ _, _ => false
  | .pass, l => (match l with
    | [.Pass _] => true
    | _ => false)
def slotB (N : List Tx) (sc : Scope) : Option Nat → Option Str → Bool
  | none, o => o.isNone
  | some i, o => (match o with
    | some x => isNm N i x && decide (sc.names.lookup x = some .local)
    | none => false)
def chkHds (gn : GN) (N : List Tx) (sc : Scope) : Hds → List ExceptHandler → Bool
  | .nil, l => l.isEmpty
  | .cons c i b r, l => (match l with
    | .ExceptHandler (some (.Name x _)) nm su _ :: l => isO (gn.exc c) x && glB sc x && slotB N sc i nm && chkHSt gn N sc nm c b su && chkHds gn N sc r l
    | _ => false)

mutual
def chkSt (gn : GN) (N : List Tx) (sc : Scope) : St → Stmt → Bool
  | .expr e, st => (match st with
    | .Expr x _ => !isComp x && chk gn N sc e x
    | _ => false)
  | .app i e, st => (match st with
    | .Expr (.Call (.Attribute (.Name x px) at_ ap) [y] [] cp) _ => decide (at_ = ("append" : Str)) && (ap.endLine == cp.line) && chk gn N sc (.var i) (.Name x px) && chk gn N sc e y
    | _ => false)
  | .set t e, st => (match st with
    | .Assign [tg] y _ => notSw sc tg y && lone y && chkT N sc (fun _ => true) t tg && chk gn N sc e y
    | _ => false)
  | .par2 i j a b, st => (match st with
    | .Assign [.Tuple [t1, t2] _ _] (.Tuple [x, y] _ _) _ => decide (i ≠ j) && isNmL N sc i t1 && isNmL N sc j t2 && isLocal sc t1 && isLocal sc t2 && parB [t1, t2] [x, y] && chk gn N sc a x && chk gn N sc b y
    | _ => false)
  | .par3 i j k a b c, st => (match st with
    | .Assign [.Tuple [t1, t2, t3] _ _] (.Tuple [x, y, z] _ _) _ => decide (i ≠ j) && decide (i ≠ k) && decide (j ≠ k) && isNmL N sc i t1 && isNmL N sc j t2 && isNmL N sc k t3 && isLocal sc t1 && isLocal sc t2 && isLocal sc t3 &&
        parB [t1, t2, t3] [x, y, z] && chk gn N sc a x && chk gn N sc b y && chk gn N sc c z
    | _ => false)
  | .setIx i k e, st => (match st with
    | .Assign [.Subscript x s _] y _ => notSub s && !isComp y && chk gn N sc (.var i) x && chk gn N sc k s && chk gn N sc e y
    | _ => false)
  | .aug i o e, st => (match st with
    | .AugAssign t op y _ => opB o op && isNmL N sc i t && chk gn N sc e y
    | _ => false)
  | .augIx i k o e, st => (match st with
    | .AugAssign (.Subscript x s _) op y _ => opB o op && notSub s && chk gn N sc (.var i) x && chk gn N sc k s && chk gn N sc e y
    | _ => false)
  | .ret e, st => (match st with
    | .Return (some x) _ => chk gn N sc e x
    | _ => false)
  | .retN, st => (match st with
    | .Return none _ => true
    | _ => false)
  | .pass, st => (match st with
    | .Pass _ => true
    | _ => false)
  | .brk, st => (match st with
    | .Break _ => true
    | _ => false)
  | .cont, st => (match st with
    | .Continue _ => true
    | _ => false)
  | .ifs c a b, st => (match st with
    | .If t x y _ => chk gn N sc c t && chkSts gn N sc a x && chkSts gn N sc b y
    | _ => false)
  | .for_ t src b, st => (match st with
    | .For tg it x [] _ => chkT N sc (fun _ => true) t tg && chkS gn N sc src it tg && chkSts gn N sc b x
    | _ => false)
  | .while_ c b, st => (match st with
    | .While t x [] _ => chk gn N sc c t && chkSts gn N sc b x
    | _ => false)
  | .raise c es, st => (match st with
    | .Raise (some (.Call (.Name x _) l [] _)) none _ => isO (gn.exc c) x && glB sc x && !l.isEmpty && (gn.xfl c l.length).isNone && (gn.xfl c (l.length - 1)).isSome && chks gn N sc es l
    | _ => false)
  | .setFld c i k e, st => (match st with
    | .Assign [.Attribute x m _] y _ => isO (gn.fld c k) m && baseB x && varB N sc i x && !isComp y && lone y && chk gn N sc e y
    | _ => false)
  | .tryx b hs, st => (match st with
    | .Try x hl [] [] _ => !hl.isEmpty && chkSts gn N sc b x && chkHds gn N sc hs hl
    | _ => false)
  | .mtch e r, st => (match st with
    | .Match x cs _ => chk gn N sc e x && chkCs gn N sc r cs
    | _ => false)
  | .never, _ => true
def chkSts (gn : GN) (N : List Tx) (sc : Scope) : Sts → List Stmt → Bool
  | .nil, l => l.isEmpty
  | .cons a r, l => (match l with
    | x :: l => chkSt gn N sc a x && chkSts gn N sc r l
    | _ => false)
def chkCs (gn : GN) (N : List Tx) (sc : Scope) : Cases → List MatchCase → Bool
  | .all b, l => (match l with
    | [⟨.MatchAs none none _, none, x⟩] => chkSts gn N sc b x
    | _ => false)
  | .seq is g b r, l => (match l with
    | ⟨.MatchSequence ps _, some t, x⟩ :: l => (match capNames ps with
      | some xs => !is.isEmpty && decide (is.Nodup) && nmsOk N sc is xs
      | none => false) && chk gn N sc g t && chkSts gn N sc b x && chkCs gn N sc r l
    | _ => false)
end
end PF
set_option Elab.async false
set_option linter.all false
set_option maxRecDepth 100000
/-! PF, part b: what a tree, a slot say of the abstract heap. -/
namespace PF
open PySem PySem.Spec PyProof.Rows
open L2 (V Hp HO upd upd_same upd_ne Same SqL SqT WX)

structure Gm where
  K : PySem.W.Frag
  cl : Nat → Addr
  fnm : Nat → List Str
  kn : Nat → Prop
  fa : Nat → Addr
  xcl : Nat → Addr
  xfn : Nat → List Str

/-- a dict's key -/
def keyP : PV → L2.Key
  | .int i => .inl i
  | .str s => .inr (mkS s)
  | _ => .inl 0
mutual
def Rep (g : Gm) (H : Hp) : PV → V → Prop
  | .non, x => x = .non
  | .bl b, x => x = .bl b
  | .int i, x => x = .int i
  | .str s, x => x = .str (mkS s)
  | .tup xs, x => ∃ a vs, x = .ref a ∧ SqT g.K H a vs ∧ Reps g H xs vs
  | .lst xs, x => ∃ a vs, x = .ref a ∧ H a = some (.lst vs) ∧ Reps g H xs vs
  | .frz xs, x => ∃ a vs, x = .ref a ∧ SqL g.K H a vs ∧ Reps g H xs vs
  | .ins c fs, x => g.kn c ∧ ∃ a dx vs, x = .ref a ∧ H a = some (.ins (g.cl c) dx ((g.fnm c).zip vs)) ∧ Reps g H fs vs
  | .dct ks ws, x => ∃ a kvs, x = .ref a ∧ H a = some (.dK kvs) ∧ kvs.map Prod.fst = ks.map keyP ∧ Reps g H ws (kvs.map Prod.snd)
def Reps (g : Gm) (H : Hp) : List PV → List V → Prop
  | [], vs => vs = []
  | x :: xs, vs => ∃ v r, vs = v :: r ∧ Rep g H x v ∧ Reps g H xs r
end

theorem sqT_mono {K : PySem.W.Frag} {H H' : Hp} {a : Addr} {xs : List V} (e : Same H H') (h : SqT K H a xs) : SqT K H' a xs := by
  rcases h with (h | ⟨o, h⟩) | h
  · exact .inl (.inl (e _ _ h))
  · exact .inl (.inr ⟨o, e _ _ h⟩)
  · exact .inr h
mutual
theorem Rep.mono {g : Gm} {H H' : Hp} (m : Same H H') : ∀ (v : PV) (x : V), Rep g H v x → Rep g H' v x
  | .non, _, h => h
  | .bl _, _, h => h
  | .int _, _, h => h
  | .str _, _, h => h
  | .tup xs, _, h => by
    obtain ⟨a, vs, e, s, r⟩ := h
    exact ⟨a, vs, e, sqT_mono m s, Reps.mono m xs vs r⟩
  | .lst xs, _, h => by
    obtain ⟨a, vs, e, s, r⟩ := h
    exact ⟨a, vs, e, m _ _ s, Reps.mono m xs vs r⟩
  | .frz xs, _, h => by
    obtain ⟨a, vs, e, s, r⟩ := h
    exact ⟨a, vs, e, m.seq s, Reps.mono m xs vs r⟩
  | .ins c fs, _, h => by
    obtain ⟨kn, a, dx, vs, e, s, r⟩ := h
    exact ⟨kn, a, dx, vs, e, m _ _ s, Reps.mono m fs vs r⟩
  | .dct ks ws, _, h => by
    obtain ⟨a, kvs, e, s, k, r⟩ := h
    exact ⟨a, kvs, e, m _ _ s, k, Reps.mono m ws _ r⟩
theorem Reps.mono {g : Gm} {H H' : Hp} (m : Same H H') : ∀ (xs : List PV) (vs : List V), Reps g H xs vs → Reps g H' xs vs
  | [], _, h => h
  | x :: xs, _, h => by
    obtain ⟨v, r, e, h1, h2⟩ := h
    exact ⟨v, r, e, Rep.mono m x v h1, Reps.mono m xs r h2⟩
end
theorem Reps.length {g : Gm} {H : Hp} : ∀ {xs : List PV} {vs : List V}, Reps g H xs vs → xs.length = vs.length
  | [], _, h => by cases (show _ = [] from h); rfl
  | x :: xs, _, h => by
    obtain ⟨v, r, rfl, _, h2⟩ := h
    simp [Reps.length h2]
theorem Reps.nil {g : Gm} {H : Hp} : Reps g H [] [] := rfl
theorem Reps.cons {g : Gm} {H : Hp} {x : PV} {v : V} {xs : List PV} {vs : List V} (h : Rep g H x v) (r : Reps g H xs vs) : Reps g H (x :: xs) (v :: vs) := ⟨v, vs, rfl, h, r⟩
theorem Reps.append {g : Gm} {H : Hp} : ∀ {xs ys : List PV} {vs ws : List V}, Reps g H xs vs → Reps g H ys ws → Reps g H (xs ++ ys) (vs ++ ws)
  | [], _, _, _, h, k => by cases (show _ = [] from h); exact k
  | x :: xs, ys, _, ws, h, k => by
    obtain ⟨v, r, rfl, h1, h2⟩ := h
    exact ⟨v, r ++ ws, rfl, h1, h2.append k⟩
theorem Reps.get {g : Gm} {H : Hp} : ∀ {xs : List PV} {vs : List V} {i : Nat} {x : PV}, Reps g H xs vs → xs[i]? = some x → ∃ v, vs[i]? = some v ∧ Rep g H x v
  | [], _, _, _, _, e => by simp at e
  | y :: ys, _, 0, x, h, e => by
    obtain ⟨v, r, rfl, h1, _⟩ := h
    simp at e; subst e
    exact ⟨v, rfl, h1⟩
  | y :: ys, _, i + 1, x, h, e => by
    obtain ⟨v, r, rfl, _, h2⟩ := h
    obtain ⟨w, e1, e2⟩ := h2.get (i := i) (x := x) (by simpa using e)
    exact ⟨w, by simpa using e1, e2⟩
theorem Reps.getV {g : Gm} {H : Hp} {xs : List PV} {vs : List V} {i : Nat} {v : V} (h : Reps g H xs vs) (e : vs[i]? = some v) : ∃ x, xs[i]? = some x ∧ Rep g H x v := by
  have l := h.length
  have hi : i < vs.length := (List.getElem?_eq_some_iff.mp e).1
  have hj : i < xs.length := by omega
  obtain ⟨w, e1, r⟩ := h.get (List.getElem?_eq_getElem hj)
  rw [e] at e1; cases e1
  exact ⟨_, List.getElem?_eq_getElem hj, r⟩
theorem Reps.set {g : Gm} {H : Hp} {x : PV} {v : V} (h0 : Rep g H x v) : ∀ {xs : List PV} {vs : List V} (i : Nat), Reps g H xs vs → Reps g H (xs.set i x) (vs.set i v)
  | [], _, i, h => by cases (show _ = [] from h); cases i <;> rfl
  | y :: ys, _, 0, h => by
    obtain ⟨w, r, rfl, _, h2⟩ := h
    exact ⟨v, r, rfl, h0, h2⟩
  | y :: ys, _, i + 1, h => by
    obtain ⟨w, r, rfl, h1, h2⟩ := h
    exact ⟨w, r.set i v, rfl, h1, h2.set h0 i⟩
theorem Reps.take {g : Gm} {H : Hp} : ∀ {xs : List PV} {vs : List V} (n : Nat), Reps g H xs vs → Reps g H (xs.take n) (vs.take n)
  | _, _, 0, _ => rfl
  | [], _, n + 1, h => by cases (show _ = [] from h); rfl
  | x :: xs, _, n + 1, h => by
    obtain ⟨v, r, rfl, h1, h2⟩ := h
    exact ⟨v, r.take n, rfl, h1, h2.take n⟩
theorem Reps.drop {g : Gm} {H : Hp} : ∀ {xs : List PV} {vs : List V} (n : Nat), Reps g H xs vs → Reps g H (xs.drop n) (vs.drop n)
  | _, _, 0, h => h
  | [], _, n + 1, h => by cases (show _ = [] from h); rfl
  | x :: xs, _, n + 1, h => by
    obtain ⟨v, r, rfl, h1, h2⟩ := h
    exact h2.drop n
theorem Reps.reverse {g : Gm} {H : Hp} : ∀ {xs : List PV} {vs : List V}, Reps g H xs vs → Reps g H xs.reverse vs.reverse
  | [], _, h => by cases (show _ = [] from h); rfl
  | x :: xs, _, h => by
    obtain ⟨v, r, rfl, h1, h2⟩ := h
    rw [List.reverse_cons, List.reverse_cons]
    exact h2.reverse.append (Reps.cons h1 Reps.nil)
theorem Reps.flatRep {g : Gm} {H : Hp} {xs : List PV} {vs : List V} (h : Reps g H xs vs) : ∀ k : Nat, Reps g H (List.replicate k xs).flatten (List.replicate k vs).flatten
  | 0 => rfl
  | k + 1 => by
    rw [List.replicate_succ, List.replicate_succ, List.flatten_cons, List.flatten_cons]
    exact h.append (h.flatRep k)

/-! ### slots -/
abbrev Fp := Addr → Prop
def none_ : Fp := fun _ => False
/-- what a slot's content says: w the slot of the frame, P the addresses that it owns -/
def OvR (g : Gm) (G H : Hp) : OV → Option (Option V) → Fp → Prop
  | .emp, _, P => ∀ a, ¬ P a
  | .sh v, w, P => (∀ a, ¬ P a) ∧ ∃ x, w = some (some x) ∧ Rep g G v x
  | .lst xs, w, P => ∃ a vs, w = some (some (.ref a)) ∧ (∀ b, P b ↔ b = a) ∧ H a = some (.lst vs) ∧ Reps g G xs vs
  | .obj c fs, w, P => g.kn c ∧ ∃ a dx vs, w = some (some (.ref a)) ∧ (∀ b, P b ↔ b = a) ∧ H a = some (.ins (g.cl c) dx ((g.fnm c).zip vs)) ∧ Reps g G fs vs
  | .kls c, w, P => (∀ a, ¬ P a) ∧ w = some (some (.ref (g.cl c)))
/-- what is read at once: the object itself in H, what it holds in G -/
def PkR (g : Gm) (G H : Hp) : PV → V → Prop
  | .lst xs, x => ∃ a vs, x = .ref a ∧ H a = some (.lst vs) ∧ Reps g G xs vs
  | .ins c fs, x => g.kn c ∧ ∃ a dx vs, x = .ref a ∧ H a = some (.ins (g.cl c) dx ((g.fnm c).zip vs)) ∧ Reps g G fs vs
  | v, x => Rep g G v x

structure Stp (G H : Hp) (A : Fp) (G' H' : Hp) (A' : Fp) : Prop where
  g : Same G G'
  keep : ∀ a o, H a = some o → ¬ A a → H' a = some o
  gnew : ∀ a o, G' a = some o → G a = none → A a ∨ H a = none
  fnew : ∀ a, A' a → A a ∨ H a = none
theorem Stp.refl {G H : Hp} {A : Fp} : Stp G H A G H A := ⟨Same.refl _, fun _ _ h _ => h, fun a o h e => (by rw [e] at h; cases h), fun _ h => .inl h⟩
theorem Stp.trans {G H G1 H1 G2 H2 : Hp} {A A1 A2 : Fp} (x : Stp G H A G1 H1 A1) (y : Stp G1 H1 A1 G2 H2 A2) : Stp G H A G2 H2 A2 := by
  have nn : ∀ a, H1 a = none → A a ∨ H a = none := fun a h => by
    cases e : H a with
    | none => exact .inr rfl
    | some o =>
      refine Classical.byCases (fun k : A a => .inl k) fun k => ?_
      rw [x.keep a o e k] at h; cases h
  refine ⟨x.g.trans y.g, fun a o h n => ?_, fun a o h e => ?_, fun a h => ?_⟩
  · refine y.keep a o (x.keep a o h n) fun k => ?_
    rcases x.fnew a k with z | z
    · exact n z
    · rw [h] at z; cases z
  · cases e1 : G1 a with
    | some o1 => exact x.gnew a o1 e1 e
    | none =>
      rcases y.gnew a o h e1 with z | z
      · exact x.fnew a z
      · exact nn a z
  · rcases y.fnew a h with z | z
    · exact x.fnew a z
    · exact nn a z
theorem Stp.sub {G H G1 H1 : Hp} {A A1 A2 : Fp} (x : Stp G H A G1 H1 A1) (h : ∀ a, A2 a → A1 a) : Stp G H A G1 H1 A2 := ⟨x.g, x.keep, x.gnew, fun a k => x.fnew a (h a k)⟩
theorem Stp.sup {G H G1 H1 : Hp} {A A0 A1 : Fp} (x : Stp G H A0 G1 H1 A1) (h : ∀ a, A0 a → A a) : Stp G H A G1 H1 A1 :=
  ⟨x.g, fun a o e n => x.keep a o e fun k => n (h a k), fun a o e k => (x.gnew a o e k).imp (h a) id, fun a k => (x.fnew a k).imp (h a) id⟩

def Own (F : Nat → Fp) : Fp := fun a => ∃ i, F i a
structure RS (g : Gm) (G H : Hp) (s : S) (σ : L2.St) (F : Nat → Fp) : Prop where
  len : s.length = σ.length
  at_ : ∀ i, i < s.length → OvR g G H (getO s i) σ[i]? (F i)
  dis : ∀ i j a, F i a → F j a → i = j
  fr : ∀ i a, F i a → G a = none
  out : ∀ i a, F i a → i < s.length
  sub : Same G H

section
variable {g : Gm} {G H G' H' : Hp} {A A' P : Fp} {s : S} {σ : L2.St} {F : Nat → Fp} {o : OV} {w : Option (Option V)} {v : PV} {x : V}

theorem OvR.there (h : OvR g G H o w P) {a : Addr} (p : P a) : ∃ u, H a = some u := by
  cases o with
  | emp => exact absurd p (h a)
  | sh v => exact absurd p (h.1 a)
  | lst xs =>
    obtain ⟨b, vs, _, e, h1, _⟩ := h
    rw [(e a).mp p]; exact ⟨_, h1⟩
  | obj c fs =>
    obtain ⟨kn, b, dx, vs, _, e, h1, _⟩ := h
    rw [(e a).mp p]; exact ⟨_, h1⟩
  | kls c => exact absurd p (h.1 a)
theorem OvR.frame (h : OvR g G H o w P) (m : Same G G') (k : ∀ a u, P a → H a = some u → H' a = some u) : OvR g G' H' o w P := by
  cases o with
  | emp => exact h
  | sh v =>
    obtain ⟨n, x, e, r⟩ := h
    exact ⟨n, x, e, Rep.mono m _ _ r⟩
  | lst xs =>
    obtain ⟨b, vs, e0, e, h1, r⟩ := h
    exact ⟨b, vs, e0, e, k b _ ((e b).mpr rfl) h1, Reps.mono m _ _ r⟩
  | obj c fs =>
    obtain ⟨kn, b, dx, vs, e0, e, h1, r⟩ := h
    exact ⟨kn, b, dx, vs, e0, e, k b _ ((e b).mpr rfl) h1, Reps.mono m _ _ r⟩
  | kls c => exact h
theorem OvR.stp (h : OvR g G H o w P) (t : Stp G H A G' H' A') (n : ∀ a, P a → ¬ A a) : OvR g G' H' o w P := h.frame t.g fun a u p e => t.keep a u e (n a p)
theorem OvR.free (h : OvR g G H o w P) (t : Stp G H A G' H' A') (n : ∀ a, P a → ¬ A a) {a : Addr} (p : P a) (e : G a = none) : G' a = none := by
  obtain ⟨u, hu⟩ := h.there p
  cases q : G' a with
  | none => rfl
  | some o =>
    rcases t.gnew a o q e with z | z
    · exact absurd z (n a p)
    · rw [hu] at z; cases z
theorem PkR.of (m : Same G H) : ∀ {v : PV}, Rep g G v x → PkR g G H v x
  | .non, h => h
  | .bl _, h => h
  | .int _, h => h
  | .str _, h => h
  | .tup _, h => h
  | .frz _, h => h
  | .lst _, h => by
    obtain ⟨a, vs, e, h1, r⟩ := h
    exact ⟨a, vs, e, m _ _ h1, r⟩
  | .ins _ _, h => by
    obtain ⟨kn, a, dx, vs, e, h1, r⟩ := h
    exact ⟨kn, a, dx, vs, e, m _ _ h1, r⟩
  | .dct _ _, h => h
/-- a slot that is read -/
theorem OvR.view (m : Same G H) (h : OvR g G H o w P) (e : o.pv = some v) : ∃ x, w = some (some x) ∧ PkR g G H v x := by
  cases o with
  | emp => cases e
  | sh v =>
    cases e
    obtain ⟨_, x, e, r⟩ := h
    exact ⟨x, e, PkR.of m r⟩
  | lst xs =>
    cases e
    obtain ⟨b, vs, e0, _, h1, r⟩ := h
    exact ⟨_, e0, b, vs, rfl, h1, r⟩
  | obj c fs =>
    cases e
    obtain ⟨kn, b, dx, vs, e0, _, h1, r⟩ := h
    exact ⟨_, e0, kn, b, dx, vs, rfl, h1, r⟩
  | kls c => cases e
theorem PkR.rep (m : Same G H) (h : PkR g G H v x) : Rep g H v x := by
  cases v with
  | lst xs =>
    obtain ⟨a, vs, e, h1, r⟩ := h
    exact ⟨a, vs, e, h1, Reps.mono m _ _ r⟩
  | ins c fs =>
    obtain ⟨kn, a, dx, vs, e, h1, r⟩ := h
    exact ⟨kn, a, dx, vs, e, h1, Reps.mono m _ _ r⟩
  | _ => exact Rep.mono m _ _ h

/-! freezing -/
open Classical in
noncomputable def frzG (G H : Hp) (P : Fp) : Hp := fun a => if P a then H a else G a
theorem frzG_in (p : P a) : frzG G H P a = H a := by unfold frzG; rw [if_pos p]
theorem frzG_out (p : ¬ P a) : frzG G H P a = G a := by unfold frzG; rw [if_neg p]
theorem frzG_sub (n : ∀ a, P a → G a = none) : Same G (frzG G H P) := fun a u e => by
  by_cases p : P a
  · rw [n a p] at e; cases e
  · rw [frzG_out p]; exact e
theorem frzG_le (m : Same G H) : Same (frzG G H P) H := fun a u e => by
  by_cases p : P a
  · rw [frzG_in p] at e; exact e
  · rw [frzG_out p] at e; exact m a u e
theorem OvR.frozen (h : OvR g G H o w P) (n : ∀ a, P a → G a = none) (e : o.pv = some v) : ∃ x, w = some (some x) ∧ Rep g (frzG G H P) v x := by
  have m := frzG_sub (H := H) n
  cases o with
  | emp => cases e
  | sh v =>
    cases e
    obtain ⟨_, x, e, r⟩ := h
    exact ⟨x, e, Rep.mono m _ _ r⟩
  | lst xs =>
    cases e
    obtain ⟨b, vs, e0, e1, h1, r⟩ := h
    exact ⟨_, e0, b, vs, rfl, by rw [frzG_in ((e1 b).mpr rfl)]; exact h1, Reps.mono m _ _ r⟩
  | obj c fs =>
    cases e
    obtain ⟨kn, b, dx, vs, e0, e1, h1, r⟩ := h
    exact ⟨_, e0, kn, b, dx, vs, rfl, by rw [frzG_in ((e1 b).mpr rfl)]; exact h1, Reps.mono m _ _ r⟩
  | kls c => cases e
theorem Stp.frz (p : ∀ a, P a → A a) (n : ∀ a, P a → G a = none) : Stp G H A (frzG G H P) H (fun a => A a ∧ ¬ P a) :=
  ⟨frzG_sub n, fun _ _ h _ => h, fun a u e h => (by
    by_cases q : P a
    · exact .inl (p a q)
    · rw [frzG_out q, h] at e; cases e), fun a h => .inl h.1⟩

theorem RS.no (R : RS g G H s σ F) {a : Addr} (h : Own F a) : ∃ u, H a = some u := by
  obtain ⟨i, p⟩ := h
  exact (R.at_ i (R.out i a p)).there p
theorem RS.free (R : RS g G H s σ F) {a : Addr} (h : Own F a) : G a = none := by
  obtain ⟨i, p⟩ := h
  exact R.fr i a p
/-- the state is carried over a step that leaves its own objects -/
theorem RS.stp (R : RS g G H s σ F) (t : Stp G H A G' H' A') (n : ∀ a, Own F a → ¬ A a) (m : Same G' H') : RS g G' H' s σ F where
  len := R.len
  at_ := fun i hi => (R.at_ i hi).stp t fun a p => n a ⟨i, p⟩
  dis := R.dis
  fr := fun i a p => (R.at_ i (R.out i a p)).free t (fun b q => n b ⟨i, q⟩) p (R.fr i a p)
  out := R.out
  sub := m
/-- other objects frozen -/
theorem RS.frz (R : RS g G H s σ F) (n : ∀ a, P a → G a = none ∧ ¬ Own F a) : RS g (frzG G H P) H s σ F where
  len := R.len
  at_ := fun i hi => (R.at_ i hi).frame (frzG_sub fun a p => (n a p).1) fun _ _ _ e => e
  dis := R.dis
  fr := fun i a p => by rw [frzG_out fun q => (n a q).2 ⟨i, p⟩]; exact R.fr i a p
  out := R.out
  sub := frzG_le R.sub
theorem getO_set {i j : Nat} (hi : i < s.length) : getO (s.set i o) j = if j = i then o else getO s j := by
  unfold getO
  by_cases e : j = i
  · subst e; simp [List.getD, hi]
  · simp [List.getD, List.getElem?_set_ne (Ne.symm e), e]
theorem getO_out {i : Nat} (h : s.length ≤ i) : getO s i = .emp := by
  unfold getO; simp [List.getD, h]
def updF (F : Nat → Fp) (i : Nat) (P : Fp) : Nat → Fp := fun j => if j = i then P else F j
theorem updF_same {i : Nat} : updF F i P i = P := by unfold updF; rw [if_pos rfl]
theorem updF_ne {i j : Nat} (h : j ≠ i) : updF F i P j = F j := by unfold updF; rw [if_neg h]
theorem own_updF {i : Nat} {a : Addr} (h : Own (updF F i P) a) : P a ∨ ∃ j, j ≠ i ∧ F j a := by
  obtain ⟨j, p⟩ := h
  by_cases e : j = i
  · subst e; rw [updF_same] at p; exact .inl p
  · rw [updF_ne e] at p; exact .inr ⟨j, e, p⟩
/-- a slot's content is replaced, the frame's slot too -/
theorem RS.put {i : Nat} {σ' : L2.St} (R : RS g G H s σ F) (hi : i < s.length) (h : OvR g G H o σ'[i]? P) (hl : σ'.length = σ.length) (hσ : ∀ j, j ≠ i → σ'[j]? = σ[j]?) (n : ∀ a, P a → G a = none ∧ ∀ j, j ≠ i → ¬ F j a) :
    RS g G H (s.set i o) σ' (updF F i P) where
  len := by rw [List.length_set, R.len, hl]
  at_ := fun j hj => by
    rw [List.length_set] at hj
    rw [getO_set hi]
    by_cases e : j = i
    · subst e; rw [if_pos rfl, updF_same]; exact h
    · rw [if_neg e, updF_ne e, hσ j e]; exact R.at_ j hj
  dis := fun j k a p q => by
    by_cases e : j = i
    · by_cases e2 : k = i
      · rw [e, e2]
      · subst e
        rw [updF_same] at p
        rw [updF_ne e2] at q
        exact absurd q ((n a p).2 k e2)
    · rw [updF_ne e] at p
      by_cases e2 : k = i
      · subst e2
        rw [updF_same] at q
        exact absurd p ((n a q).2 j e)
      · rw [updF_ne e2] at q
        exact R.dis j k a p q
  fr := fun j a p => by
    by_cases e : j = i
    · subst e; rw [updF_same] at p; exact (n a p).1
    · rw [updF_ne e] at p; exact R.fr j a p
  out := fun j a p => by
    rw [List.length_set]
    by_cases e : j = i
    · rw [e]; exact hi
    · rw [updF_ne e] at p; exact R.out j a p
  sub := R.sub
/-- the content alone -/
theorem RS.put0 {i : Nat} (R : RS g G H s σ F) (hi : i < s.length) (h : OvR g G H o σ[i]? P) (n : ∀ a, P a → G a = none ∧ ∀ j, j ≠ i → ¬ F j a) : RS g G H (s.set i o) σ (updF F i P) :=
  R.put hi h rfl (fun _ _ => rfl) n
/-- a slot's own object is frozen -/
theorem RS.freeze {i : Nat} (R : RS g G H s σ F) (hi : i < s.length) (e : (getO s i).pv = some v) : RS g (frzG G H (F i)) H (s.set i (.sh v)) σ (updF F i none_) := by
  obtain ⟨x, e1, r⟩ := (R.at_ i hi).frozen (fun a p => R.fr i a p) e
  have n : ∀ a, F i a → G a = none := fun a p => R.fr i a p
  have R1 : RS g G H (s.set i .emp) σ (updF F i none_) := R.put0 hi (show OvR g G H .emp _ none_ from fun _ z => z) fun a p => p.elim
  have R2 := R1.frz (P := F i) fun a p => ⟨n a p, fun ⟨j, q⟩ => by
    by_cases z : j = i
    · subst z; rw [updF_same] at q; exact q
    · rw [updF_ne z] at q; exact z (R.dis j i a q p)⟩
  have hi2 : i < (s.set i .emp).length := by rw [List.length_set]; exact hi
  have R3 := R2.put0 (i := i) (o := .sh v) (P := none_) hi2 ⟨fun _ z => z, x, e1, r⟩ fun a p => p.elim
  have e2 : ((s.set i .emp).set i (.sh v)) = s.set i (.sh v) := by rw [List.set_set]
  have e3 : updF (updF F i none_) i none_ = updF F i none_ := by
    funext j
    by_cases z : j = i
    · subst z; rw [updF_same, updF_same]
    · rw [updF_ne z]
  rw [e2, e3] at R3
  exact R3
theorem Own.put {i : Nat} {a : Addr} (h : Own (updF F i none_) a) : Own F a := by
  rcases own_updF h with z | ⟨j, _, p⟩
  · exact z.elim
  · exact ⟨j, p⟩
/-- a new object -/
theorem RS.new (R : RS g G H s σ F) {p : Addr} {u : HO} (h : H p = none) : RS g G (upd H p u) s σ F := by
  have k : ∀ a v, H a = some v → upd H p u a = some v := fun a v e => by rw [upd_ne (L2.ne_of_none e h)]; exact e
  exact ⟨R.len, fun i hi => (R.at_ i hi).frame (Same.refl _) fun a v _ e => k a v e, R.dis, R.fr, R.out, fun a v e => k a v (R.sub a v e)⟩
theorem Stp.new {p : Addr} {u : HO} (h : H p = none) : Stp G H A G (upd H p u) (fun a => a = p ∨ A a) :=
  ⟨Same.refl _, fun a v e _ => (by rw [upd_ne (L2.ne_of_none e h)]; exact e), fun a u e k => (by rw [k] at e; cases e), fun a k => (by
    rcases k with rfl | k
    · exact .inr h
    · exact .inl k)⟩
/-- a new object that is frozen at once -/
theorem RS.newG (R : RS g G H s σ F) {p : Addr} {u : HO} (h : H p = none) : RS g (upd G p u) (upd H p u) s σ F := by
  have hG : G p = none := by
    cases e : G p with
    | none => rfl
    | some o => rw [R.sub p o e] at h; cases h
  have k : ∀ a v, H a = some v → upd H p u a = some v := fun a v e => by rw [upd_ne (L2.ne_of_none e h)]; exact e
  have kG : Same G (upd G p u) := fun a v e => by rw [upd_ne (L2.ne_of_none e hG)]; exact e
  refine ⟨R.len, fun i hi => (R.at_ i hi).frame kG fun a v _ e => k a v e, R.dis, fun i a q => ?_, R.out, fun a v e => ?_⟩
  · obtain ⟨v, hv⟩ := R.no ⟨i, q⟩
    rw [upd_ne (L2.ne_of_none hv h)]
    exact R.fr i a q
  · by_cases z : a = p
    · subst z; rw [upd_same] at e ⊢; exact e
    · rw [upd_ne z] at e ⊢; exact R.sub a v e
theorem Stp.newG {p : Addr} {u : HO} (m : Same G H) (h : H p = none) : Stp G H A (upd G p u) (upd H p u) A := by
  have hG : G p = none := by
    cases e : G p with
    | none => rfl
    | some o => rw [m p o e] at h; cases h
  refine ⟨fun a v e => by rw [upd_ne (L2.ne_of_none e hG)]; exact e, fun a v e _ => by rw [upd_ne (L2.ne_of_none e h)]; exact e, fun a v e k => ?_, fun a k => .inl k⟩
  by_cases z : a = p
  · rw [z]; exact .inr h
  · rw [upd_ne z, k] at e; cases e
end
end PF
set_option Elab.async false
set_option linter.all false
set_option maxRecDepth 100000
set_option maxHeartbeats 4000000
/-! PF, part z: a tuple once. -/
namespace PF
open PySem PySem.Spec PyProof.Rows
open AutoSeq1 (wpAny_loadPart')
theorem tup_once (l : Addr) (its : Array Value) (n : Nat) (dd : Option Addr) (sl : Array (Option Value)) (u : Tok) :
    Meets (Builtin.«tuple.__mul__» ⟨[.ref l, .int 1 u], []⟩) (fun _ R s => s.heap.get? l = some { cls := .type "tuple", dict := dd, data := .seq its n, slots := sl } ∧ R (.ok (.ret (Value.ref l))) s) :=
  .of_wp fun prog w A R s h => by
    obtain ⟨hp, g, d, tk, os⟩ := s
    obtain ⟨hl, h⟩ := h
    have f1 := AutoSeq1.idx_int
    wp_walk using wpAny_loadPart' hl
    repeat (first
      | (refine wpAny_ite_true (decide_eq_true (by simp)) ?_; wp_walk using wpAny_loadPart' hl)
      | (refine wpAny_ite_false (decide_eq_false (by decide)) ?_; wp_walk using wpAny_loadPart' hl))
    exact ⟨_, rfl, h⟩
open L2 (V Hp HO VK OpR RelV SqT)
theorem op_rep1 {X : L2.Cx} : OpR X (binaryOp .Mult) (fun x y H Q => ∃ l xs, x = .ref l ∧ y = .int 1 ∧ SqT X.K H l xs ∧ Q (.ref l) H) := by
  intro pins s σ H x y v u Q I rx ry h
  obtain ⟨l, xs, rfl, rfl, hT, q⟩ := h
  cases rx
  obtain ⟨t, rfl⟩ := ry
  obtain ⟨its, r, hIs, hs⟩ := I.tuple hT
  have hIs0 := hIs
  obtain ⟨o, ho, hc, n, hd⟩ := hIs
  obtain ⟨cls, dd, data, sl⟩ := o
  have hc : cls = .type "tuple" := hc
  have hd : data = .seq its.toArray n := hd
  subst hc
  subst hd
  exact wpAny_binaryOp_repeat_ref (T := "tuple") (U := "int") (by decide) ⟨_, ho, rfl⟩ (fun s' => typeIs_int s' 1 t) L2.noFill_tuple_mul F.fills_int_mul F.slot_int_rmul L2.repeat_tuple F.slot_int_index.lookup
    (call_meets F.slot_int_rmul (typeIs_int s 1 t) F.entry_int_rmul (F.args_int_rmul_2 _ _) (L2.int_rmul_tuple 1 t l its.toArray n dd sl) ⟨ho, rfl, ⟨_, ho, rfl⟩, call_meets F.slot_tuple_mul ⟨_, ho, rfl⟩ F.entry_tuple_mul (F.args_tuple_mul_2 _ _) (tup_once l its.toArray n dd sl t) ⟨ho, ⟨.ref l, H, I, rfl, q⟩⟩⟩)
/-! ### a tuple from its end -/
section
variable {prog : Program} {w : World} {A : Around} {E : Value → Shared → Prop} {s : Shared}
theorem places_back (n : Nat) : Builtin.Slice.slicePlaces ((n : Int) - 1) (-1) (-1) = n := by
  unfold Builtin.Slice.slicePlaces
  rw [if_neg (by decide)]
  by_cases h : n = 0
  · subst h; rfl
  · rw [if_pos (by omega)]
    simp only [Int.neg_neg, Int.ediv_one]
    omega
theorem applied_back {sl : Addr} {vl vu vs : Value} {n : Nat} {Q : Int × Int × Nat → Shared → Prop} (hs : s.heap.IsSliceOf sl vl vu vs) (pl : IsPart vl none) (pu : IsPart vu none) (ps : IsPart vs (some (-1)))
    (h : Q ((n : Int) - 1, -1, n) s) : wpAny (model prog w) A (Builtin.Slice.sliceApplied (.ref sl) (pure (n : Int))) Q E s := by
  obtain ⟨os, hos, hcs, hds⟩ := id hs
  unfold Builtin.Slice.sliceApplied Builtin.Slice.sliceFields
  refine wpAny_bind (wpAny_bind (wpAny_field hos hds (x := vl) rfl (wpAny_bind (wpAny_field hos hds (x := vu) rfl (wpAny_bind (wpAny_field hos hds (x := vs) rfl (wpAny_pure ?_)))))))
  refine wpAny_bind (HT.slicePart_ ps ?_)
  show wpAny _ _ (if ((-1 : Int) == 0) = true then _ else _) _ _ s
  rw [if_neg (by decide)]
  refine wpAny_bind (HT.slicePart_ pl (wpAny_bind (HT.slicePart_ pu (wpAny_bind (wpAny_pure ?_)))))
  show wpAny _ _ (pure ((n : Int) - 1, (-1 : Int), Builtin.Slice.slicePlaces ((n : Int) - 1) (-1) (-1))) _ _ s
  rw [places_back]
  exact wpAny_pure h
theorem all_at {α : Type} (l : List α) : (List.range l.length).filterMap (fun k => l[k]?) = l := by
  induction l with
  | nil => rfl
  | cons a l ih =>
    rw [List.length_cons, List.range_succ_eq_map, List.filterMap_cons, List.filterMap_map]
    show a :: _ = _
    congr 1
theorem fm_congr {α β : Type} {f g : α → Option β} : ∀ (l : List α), (∀ x, x ∈ l → f x = g x) → l.filterMap f = l.filterMap g
  | [], _ => rfl
  | a :: l, h => by
    rw [List.filterMap_cons, List.filterMap_cons, h a List.mem_cons_self, fm_congr l fun x hx => h x (List.mem_cons_of_mem _ hx)]
theorem pick_back (xs : Array Value) : ((List.range xs.size).filterMap fun (k : Nat) => xs[(((xs.size : Nat) : Int) - 1 + (k : Int) * (-1)).toNat]?) = xs.toList.reverse := by
  have e := all_at xs.toList.reverse
  rw [List.length_reverse, Array.length_toList] at e
  rw [← e]
  refine fm_congr _ fun k hk => ?_
  have hk : k < xs.size := List.mem_range.mp hk
  rw [List.getElem?_reverse (by simpa using hk)]
  have q : (((xs.size : Nat) : Int) - 1 + (k : Int) * (-1)).toNat = xs.size - 1 - k := by omega
  rw [q]
  simp
theorem item_back {t sl : Addr} {items : Array Value} {vl vu vs : Value} {Q : Value → Shared → Prop} (ht : IsTup s.heap t items) (hs : s.heap.IsSliceOf sl vl vu vs) (pl : IsPart vl none) (pu : IsPart vu none) (ps : IsPart vs (some (-1)))
    (h : Q (.ref s.heap.objs.size) { s with heap := s.heap.push { cls := .type "tuple", data := .seq items.toList.reverse.toArray } })
    (hsz : items.size ≤ sizeLine) : wpAny (model prog w) A (getItem (.ref t) (.ref sl)) Q E s := by
  have hok : sizeOk (.seq items.toList.reverse.toArray) := by
    show items.toList.reverse.toArray.size ≤ sizeLine
    simpa using hsz
  obtain ⟨os, hos, hcs, hds⟩ := id hs
  have hTs : s.TypeIs (.ref sl) "slice" := ⟨os, hos, hcs⟩
  unfold getItem
  try with_reducible refine wpAny_holding ?_
  first | refine wpAny_bind (wpAny_pure ?_) | skip
  refine wpAny_bind (wpAny_sequenceKey ht.typeIs (by decide) ?_)
  refine wpAny_bind (wpAny_callSpecial?_slot (name := Str.ofString "__getitem__") ht.typeIs PyProof.Rows.slot_tuple_getitem
    (wpAny_call_entry PyProof.Rows.slot_tuple_getitem ht.typeIs PyProof.Rows.entry_tuple_getitem ?_ (PyProof.Rows.args_tuple_getitem _ _)))
  show wpAny _ _ (Builtin.Tuple.tupleItemsOf (.ref t) >>= _) _ _ s
  refine wpAny_bind (tupleItemsOf_ ht ?_)
  refine wpAny_bind (wpAny_typeOf hTs ?_)
  rw [if_pos (by decide)]
  refine wpAny_bind (applied_back hs pl pu ps ?_)
  have hno : ¬ ((((items.size : Nat) : Int) - 1 == 0 && (-1 : Int) == 1 && items.size == items.size) = true) := by
    intro q
    rw [Bool.and_eq_true, Bool.and_eq_true] at q
    exact absurd (eq_of_beq q.1.2) (by decide)
  show wpAny _ _ (if (((items.size : Nat) : Int) - 1 == 0 && (-1 : Int) == 1 && items.size == items.size) = true then _ else _) _ _ s
  rw [if_neg hno, pick_back]
  first
    | exact wpAny_bind (m := Builtin.Tuple.tupleExact _) (wpAny_newObj_type (wpAny_pure ⟨_, rfl, wpAny_pure h⟩) hok)
    | exact wpAny_bind (m := Builtin.Tuple.tupleExact _) (wpAny_newObj_type (wpAny_bind (wpAny_pure (wpAny_pure ⟨_, rfl, wpAny_pure h⟩))) hok)
    | exact wpAny_bind (wpAny_bind (m := Builtin.Tuple.tupleExact _) (wpAny_newObj_type (wpAny_pure (wpAny_pure ⟨_, rfl, wpAny_pure h⟩)) hok))
    | exact wpAny_bind (wpAny_bind (m := Builtin.Tuple.tupleExact _) (wpAny_newObj_type (wpAny_pure ⟨_, rfl, wpAny_pure h⟩) hok))
end
open L2 (SqL upd PE)
def tBack (K : PySem.W.Frag) (te : L2.TE) : L2.TE := fun σ H Q => te σ H fun x H1 => ∃ a xs, x = .ref a ∧ ((SqL K H1 a xs ∧ ∀ p, H1 p = none → Q (.ref p) (upd H1 p (.lst xs.reverse))) ∨ (SqT K H1 a xs ∧ ∀ p, H1 p = none → Q (.ref p) (upd H1 p (.tup xs.reverse))))
theorem pe_back {X : L2.Cx} {e : Expr} {te : L2.TE} {k : Nat} {p1 p2 p3 pos : Pos} (he : PE X e te) : PE X (.Subscript e (.Slice none none (some (.UnaryOp .USub (.Constant (.int 1) k p1) p2)) p3) pos) (tBack X.K te) := by
  refine ⟨fun pins s σ H Q I h => ?_⟩
  refine Subscript_ (L2.thn (he.run pins s σ H _ I h) fun v s1 ⟨x, H1, I1, r1, q1⟩ => ?_)
  obtain ⟨a, xs, ex, hx⟩ := q1
  subst ex
  cases r1
  have hst : L2.PO X (some (.UnaryOp .USub (.Constant (.int 1) k p1) p2)) (L2.tPart (L2.tUn (L2.rU fun i => .int (-i)) (L2.tC (.int 1)))) := L2.po_some (L2.pe_un L2.un_neg L2.pe_int)
  refine wpAny_Slice (L2.thn (L2.po_none.run pins s1 σ H1 (fun o H2 => o = none ∧ H2 = H1) I1 ⟨rfl, rfl⟩) fun vl s2 ⟨l, H2, I2, pl, el, e2⟩ => ?_)
  subst el e2
  refine L2.thn (L2.po_none.run pins s2 σ H2 (fun o H3 => o = none ∧ H3 = H2) I2 ⟨rfl, rfl⟩) fun vu s3 ⟨u, H3, I3, pu, eu, e3⟩ => ?_
  subst eu e3
  refine L2.thn (hst.run pins s3 σ H3 (fun o H4 => o = some (-1) ∧ H4 = H3) I3 ⟨1, rfl, -1, rfl, rfl, rfl⟩) fun vs s4 ⟨o, H4, I4, ps, eo, e4⟩ => ?_
  subst eo e4
  have I5 : L2.Inv X pins σ H4 { s4 with heap := s4.heap.push { cls := .type "slice", data := .fields #[vl, vu, vs] } } := I4.kept (t' := s4.toks) fun b ob q => Heap.get?_push_of_some _ q
  show wpAny (model X.prog X.w) X.A (subscriptTail e (.Slice none none (some (.UnaryOp .USub (.Constant (.int 1) k p1) p2)) p3) (.ref a) (.ref s4.heap.objs.size)) (L2.EP X pins σ Q) X.xe { s4 with heap := s4.heap.push { cls := .type "slice", data := .fields #[vl, vu, vs] } }
  rcases hx with ⟨hx, q⟩ | ⟨hx, q⟩
  · obtain ⟨its, r, ht, hz⟩ := I5.list hx
    have hlen := r.length
    refine tail_any (ops := [.ref a, .ref s4.heap.objs.size]) ht.isList.typeIs (PySem.slot_list_getitem.lookup) ?_ (by with_unfolding_all rfl)
    refine wpAny_getItem_list_slice ht.isList (Heap.IsSliceOf.new _ vl vu vs) pl pu ps (by decide) ?_ (by rw [List.size_toArray]; omega)
    rw [PySem.W.krv_pick]
    refine ⟨.ref _, _, I5.laid (t' := s4.toks) (o := .lst xs.reverse) (fun b ob q => Heap.get?_push_of_some _ q) (Nat.le_refl _) ?_, rfl, q _ (I5.hok.fresh (Nat.le_refl _))⟩
    exact ⟨by rw [List.length_reverse]; exact hz, _, 0, r.reverse, Heap.get?_push_size _ rfl⟩
  · obtain ⟨its, r, ht, hz⟩ := I5.tuple hx
    have hlen := r.length
    refine tail_any (ops := [.ref a, .ref s4.heap.objs.size]) ht.typeIs PyProof.Rows.slot_tuple_getitem.lookup ?_ (by with_unfolding_all rfl)
    refine item_back ht (Heap.IsSliceOf.new _ vl vu vs) pl pu ps ?_ (by rw [List.size_toArray]; omega)
    refine ⟨.ref _, _, I5.laid (t' := s4.toks) (o := .tup xs.reverse) (fun b ob q => Heap.get?_push_of_some _ q) (Nat.le_refl _) ?_, rfl, q _ (I5.hok.fresh (Nat.le_refl _))⟩
    exact ⟨by rw [List.length_reverse]; exact hz, _, r.reverse, IsTup.new _ _⟩
end PF
set_option Elab.async false
set_option linter.all false
set_option maxRecDepth 100000
/-! PF, part c: readings; operations. -/
namespace PF
open PySem PySem.Spec PyProof.Rows
open L2 (V Hp HO upd upd_same upd_ne Same SqL SqT WX PE PT PA PC OpR CallR IxR SlR MtR TruR VK)

/-- an exception's fields -/
def XR (g : Gm) (G : Hp) (e : PExc) (d : Addr) : Prop := ∃ vs, G d = some (.xd ((g.xfn e.c).zip vs)) ∧ Reps g G e.fs vs
abbrev RL (α β : Type) := L2.St → S → Hp → Hp → α → β → Fp → Prop
def Post (g : Gm) (W : WX) (σ : L2.St) (G H : Hp) (A : Fp) {α β : Type} (Rl : RL α β) (Q : β → Hp → Prop) : Res α → Prop
  | .ok a s => ∀ G' H' F' P b, Stp G H A G' H' (fun c => P c ∨ Own F' c) → RS g G' H' s σ F' → (∀ c, P c → G' c = none ∧ ¬ Own F' c) → Rl σ s G' H' a b P → Q b H'
  | .exc e s => ∀ G' H' F' d, Stp G H A G' H' (Own F') → RS g G' H' s σ F' → XR g G' e d → W (.ref (g.xcl e.c)) (some d) σ H'
  | .bad => False
def T (g : Gm) (W : WX) {α β : Type} (Rl : RL α β) (f : S → Res α) : L2.St → Hp → (β → Hp → Prop) → Prop := fun σ H Q => ∃ G s F, RS g G H s σ F ∧ Post g W σ G H (Own F) Rl Q (f s)

def RlO (g : Gm) : RL OV V := fun _ _ G H o x P => OvR g G H o (some (some x)) P
def RlV (g : Gm) : RL PV V := fun _ _ G H v x P => (∀ a, ¬ P a) ∧ Rep g G v x
def RlP (g : Gm) : RL PV V := fun _ _ G H v x P => (∀ a, ¬ P a) ∧ PkR g G H v x
def RlB : RL Bool Bool := fun _ _ _ _ b c P => (∀ a, ¬ P a) ∧ b = c
def RlVs (g : Gm) : RL (List PV) (List V) := fun _ _ G H v x P => (∀ a, ¬ P a) ∧ Reps g G v x
def RlI : RL (Option Int) (Option Int) := fun _ _ _ _ b c P => (∀ a, ¬ P a) ∧ b = c

section
variable {g : Gm} {W : WX} {σ : L2.St} {G H G1 H1 : Hp} {A A1 : Fp} {α β γ δ : Type} {Rl : RL α β} {Rl2 : RL γ δ} {Q : β → Hp → Prop} {s : S} {F : Nat → Fp}
theorem Post.stp {r : Res α} (t : Stp G H A G1 H1 A1) (h : Post g W σ G H A Rl Q r) : Post g W σ G1 H1 A1 Rl Q r := by
  cases r with
  | ok a s => exact fun G' H' F' P b k => h G' H' F' P b (t.trans k)
  | exc e s => exact fun G' H' F' d k => h G' H' F' d (t.trans k)
  | bad => exact h
theorem Post.sup {r : Res α} (k : ∀ a, A1 a → A a) (h : Post g W σ G H A Rl Q r) : Post g W σ G H A1 Rl Q r := by
  cases r with
  | ok a s => exact fun G' H' F' P b t => h G' H' F' P b (t.sup k)
  | exc e s => exact fun G' H' F' d t => h G' H' F' d (t.sup k)
  | bad => exact h
/-- a result, then what follows -/
theorem Post.bind {Q : δ → Hp → Prop} {r : Res α} {k : α → S → Res γ} (h : Post g W σ G H A Rl2 Q (r.bind k)) :
    Post g W σ G H A Rl (fun b H1 => ∃ G1 s1 F1 a P, Stp G H A G1 H1 (fun c => P c ∨ Own F1 c) ∧ RS g G1 H1 s1 σ F1 ∧ (∀ c, P c → G1 c = none ∧ ¬ Own F1 c) ∧ Rl σ s1 G1 H1 a b P ∧ Post g W σ G1 H1 (fun c => P c ∨ Own F1 c) Rl2 Q (k a s1)) r := by
  cases r with
  | ok a s1 => exact fun G' H' F' P b t R d q => ⟨G', s1, F', a, P, t, R, d, q, Post.stp t h⟩
  | exc e s => exact h
  | bad => exact h
theorem Post.opt {o : Option α} (h : Post g W σ G H A Rl Q (Res.opt o s)) : ∃ a, o = some a ∧ Post g W σ G H A Rl Q (.ok a s) := by
  cases o with
  | none => exact h.elim
  | some a => exact ⟨a, rfl, h⟩
/-- the result is at hand already -/
theorem Post.here {a : α} {b : β} (R : RS g G H s σ F) (h : Post g W σ G H (Own F) Rl Q (.ok a s)) (q : Rl σ s G H a b none_) : Q b H :=
  h G H F none_ b (Stp.refl.sub fun c z => z.elim (fun z => z.elim) id) R (fun _ z => z.elim) q
/-- a value is frozen -/
theorem Post.frz {r : Res OV} {Q : VK} (h : Post g W σ G H A (RlV g) Q (frzR r)) : Post g W σ G H A (RlO g) Q r := by
  cases r with
  | ok o s1 =>
    obtain ⟨v, e, h⟩ := Post.opt (o := o.pv) (s := s1) h
    intro G' H' F' P x t R d q
    have nP : ∀ a, P a → G' a = none := fun a p => (d a p).1
    obtain ⟨y, e2, r⟩ := OvR.frozen q nP e
    cases e2
    refine h (frzG G' H' P) H' F' none_ x ?_ (R.frz d) (fun _ z => z.elim) ⟨fun _ z => z, r⟩
    refine t.trans ((Stp.frz (A := fun c => P c ∨ Own F' c) (fun a p => .inl p) nP).sub fun a z => ?_)
    rcases z with z | z
    · exact z.elim
    · exact ⟨.inr z, fun p => (d a p).2 z⟩
  | exc e s => exact h
  | bad => exact h
theorem Post.valR {r : Res PV} {Q : VK} (h : Post g W σ G H A (RlO g) Q (valR r)) : Post g W σ G H A (RlV g) Q r := by
  cases r with
  | ok v s1 => exact fun G' H' F' P x t R d q => h G' H' F' P x t R d ⟨q.1, x, rfl, q.2⟩
  | exc e s => exact h
  | bad => exact h
theorem Post.boolR {r : Res Bool} {Q : VK} (h : Post g W σ G H A (RlO g) Q (boolR r)) : Post g W σ G H A RlB (fun b H' => Q (.bl b) H') r := by
  cases r with
  | ok v s1 => exact fun G' H' F' P x t R d q => h G' H' F' P (.bl x) t R d ⟨q.1, .bl x, rfl, by rw [q.2]; exact rfl⟩
  | exc e s => exact h
  | bad => exact h
theorem Post.imp {r : Res α} {Q Q' : β → Hp → Prop} (h : Post g W σ G H A Rl Q r) (k : ∀ b H, Q b H → Q' b H) : Post g W σ G H A Rl Q' r := by
  cases r with
  | ok a s => exact fun G' H' F' P b t R d q => k _ _ (h G' H' F' P b t R d q)
  | exc e s => exact h
  | bad => exact h

/-- where the first result owns nothing -/
theorem own_or {P : Fp} (n : ∀ a, ¬ P a) : ∀ a, Own F a → (P a ∨ Own F a) := fun _ => .inr
theorem Stp.own {P : Fp} {F1 : Nat → Fp} (t : Stp G H A G1 H1 (fun c => P c ∨ Own F1 c)) : Stp G H A G1 H1 (Own F1) := t.sub fun _ => .inr

/-! ### what comes out of an operation -/
def Out (g : Gm) (G H : Hp) (ov : OV) (Q : VK) : Prop := ∀ G' H' P z, Stp G H none_ G' H' P → Same G' H' → (∀ a, P a → G' a = none) → OvR g G' H' ov (some (some z)) P → Q z H'
theorem Post.out {Q : VK} {ov : OV} (R : RS g G H s σ F) (h : Post g W σ G H (Own F) (RlO g) Q (.ok ov s)) : Out g G H ov Q := by
  intro G' H' P z t m d q
  refine h G' H' F P z ?_ (R.stp t (fun _ _ k => k) m) (fun c p => ⟨d c p, fun k => ?_⟩) q
  · exact ⟨t.g, fun a o e _ => t.keep a o e fun k => k, fun a o e k => (t.gnew a o e k).elim (fun k => k.elim) .inr, fun a k => by
      rcases k with k | k
      · exact (t.fnew a k).elim (fun k => k.elim) .inr
      · exact .inl k⟩
  · obtain ⟨u, hu⟩ := R.no k
    rcases t.fnew c p with z | z
    · exact z
    · rw [hu] at z; cases z
theorem Out.sh {Q : VK} {v : PV} {x : V} (m : Same G H) (h : Out g G H (.sh v) Q) (r : Rep g G v x) : Q x H := h G H none_ x Stp.refl m (fun _ z => z.elim) ⟨fun _ z => z, x, rfl, r⟩
theorem Out.lst {Q : VK} {xs : List PV} {vs : List V} {p : Addr} (m : Same G H) (h : Out g G H (.lst xs) Q) (r : Reps g G xs vs) (n : H p = none) : Q (.ref p) (upd H p (.lst vs)) := by
  have hG : G p = none := m.free n
  refine h G (upd H p (.lst vs)) (fun a => a = p) (.ref p) ((Stp.new n).sub fun a e => .inl e) ?_ (fun a e => by rw [e]; exact hG) ⟨p, vs, rfl, fun _ => Iff.rfl, upd_same, r⟩
  exact fun a v e => by rw [upd_ne (L2.ne_of_none (m a v e) n)]; exact m a v e
theorem same_newG {p : Addr} {u : HO} (m : Same G H) (n : H p = none) : Same (upd G p u) (upd H p u) := fun a v e => by
  by_cases z : a = p
  · subst z; rw [upd_same] at e ⊢; exact e
  · rw [upd_ne z] at e ⊢; exact m a v e
theorem same_upd {p : Addr} {u : HO} (n : G p = none) : Same G (upd G p u) := fun a v e => by rw [upd_ne (L2.ne_of_none e n)]; exact e
theorem Out.tup {Q : VK} {xs : List PV} {vs : List V} {p : Addr} (m : Same G H) (h : Out g G H (.sh (.tup xs)) Q) (r : Reps g G xs vs) (n : H p = none) : Q (.ref p) (upd H p (.tup vs)) := by
  have hG : G p = none := m.free n
  refine h (upd G p (.tup vs)) (upd H p (.tup vs)) none_ (.ref p) (Stp.newG m n) (same_newG m n) (fun _ z => z.elim) ⟨fun _ z => z, .ref p, rfl, p, vs, rfl, .inl (.inl upd_same), Reps.mono (same_upd hG) _ _ r⟩
end


/-! ### operators -/
theorem big_eq : big = sizeLine := by unfold big; rw [sizeLine_eq]
section
variable {g : Gm} {X : L2.Cx} {G H : Hp}
theorem imp_op {f : Value → Value → Sem Value} {r r' : L2.R2} (h : OpR X f r) (k : ∀ x y H Q, r' x y H Q → r x y H Q) : OpR X f r' := fun pins s σ H x y v u Q I rx ry q => h pins s σ H x y v u Q I rx ry (k _ _ _ _ q)
theorem imp_call {f : Value} {r r' : List V → Hp → VK → Prop} (h : CallR X f r) (k : ∀ xs H Q, r' xs H Q → r xs H Q) : CallR X f r' := fun pins s σ H xs us Q I rx q => h pins s σ H xs us Q I rx (k _ _ _ q)
theorem rep_int {i : Int} : Rep g G (.int i) (.int i) := rfl
theorem rep_bl {i : Bool} : Rep g G (.bl i) (.bl i) := rfl
theorem sqL_lst {a : Addr} {vs : List V} (m : Same G H) (h : H a = some (.lst vs)) : SqL g.K H a vs := .inl (.inl h)
/-- a list of either kind that is read -/
theorem pk_items {v : PV} {x : V} {xs : List PV} (m : Same G H) (h : PkR g G H v x) (e : items v = some xs) : ∃ a vs, x = .ref a ∧ (SqL g.K H a vs ∨ SqT g.K H a vs) ∧ Reps g G xs vs := by
  cases v with
  | lst ys =>
    cases e
    obtain ⟨a, vs, e0, h1, r⟩ := h
    exact ⟨a, vs, e0, .inl (.inl (.inl h1)), r⟩
  | tup ys =>
    cases e
    obtain ⟨a, vs, e0, h1, r⟩ := h
    exact ⟨a, vs, e0, .inr (sqT_mono m h1), r⟩
  | frz ys =>
    cases e
    obtain ⟨a, vs, e0, h1, r⟩ := h
    exact ⟨a, vs, e0, .inl (m.seq h1), r⟩
  | _ => cases e

def rBin (g : Gm) (o : BOp) : L2.R2 := fun x y H Q => ∃ G v w ov, Same G H ∧ PkR g G H v x ∧ PkR g G H w y ∧ binop o v w = some ov ∧ Out g G H ov Q
theorem op_bin (hK : X.K = g.K) {o : BOp} {op : Operator} (h : opB o op = true) : OpR X (binaryOp op) (rBin g o) := by
  cases o <;> cases op <;> first | (exact absurd (show false = true from h) Bool.false_ne_true) | skip
  · -- add
    refine imp_op (L2.op_add.or (L2.op_cat.or L2.op_catA)) fun x y H Q hr => ?_
    obtain ⟨G, v, w, ov, m, hv, hw, e, q⟩ := hr
    have e : bAdd v w = some ov := e
    unfold bAdd at e
    split at e
    · cases e
      exact .inl ⟨_, _, hv, hw, q.sh m rep_int⟩
    · split at e
      · cases e
        rename_i a b hl
        obtain ⟨p, vs, rfl, h1, r1⟩ := hv
        obtain ⟨p2, ws, rfl, h2, r2⟩ := hw
        refine .inr (.inl ⟨p, p2, vs, ws, rfl, rfl, h1, h2, ?_, fun z n => q.lst m (r1.append r2) n⟩)
        rw [← r1.length, ← r2.length, ← big_eq]; exact hl
      · cases e
    · split at e
      · cases e
        rename_i a b hl
        obtain ⟨p, vs, rfl, h1, r1⟩ := hv
        obtain ⟨p2, ws, rfl, h2, r2⟩ := hw
        refine .inr (.inr ⟨p, p2, vs, ws, rfl, rfl, by rw [hK]; exact sqT_mono m h1, by rw [hK]; exact sqT_mono m h2, ?_, fun e => ?_, fun _ e => ?_, fun _ _ z n => ?_⟩)
        · rw [← r1.length, ← r2.length, ← big_eq]; exact hl
        · subst e
          have ea : a = [] := List.eq_nil_of_length_eq_zero r1.length
          subst ea
          exact q.sh m ⟨p2, ws, rfl, h2, r2⟩
        · subst e
          have ea : b = [] := List.eq_nil_of_length_eq_zero r2.length
          subst ea
          exact q.sh m ⟨p, vs, rfl, h1, by rw [List.append_nil]; exact r1⟩
        · exact q.tup m (r1.append r2) n
      · cases e
    · cases e
  · refine imp_op L2.op_sub fun x y H Q hr => ?_
    obtain ⟨G, v, w, ov, m, hv, hw, e, q⟩ := hr
    have e : bSub v w = some ov := e
    unfold bSub at e
    split at e
    · cases e
      exact ⟨_, _, hv, hw, q.sh m rep_int⟩
    · cases e
  · refine imp_op (L2.op_mul.or (L2.op_rep.or (L2.op_repT.or op_rep1))) fun x y H Q hr => ?_
    obtain ⟨G, v, w, ov, m, hv, hw, e, q⟩ := hr
    have e : bMul v w = some ov := e
    unfold bMul at e
    split at e
    · split at e
      · cases e
        rename_i hl
        exact .inl ⟨_, _, hv, hw, mul_bd hl, q.sh m rep_int⟩
      · cases e
    · split at e
      · cases e
        rename_i a k hl
        have hl := rep_bd hl
        obtain ⟨p, vs, rfl, h1, r1⟩ := hv
        cases (show y = .int k from hw)
        exact .inr (.inl ⟨p, k, vs, rfl, rfl, h1, hl.1, hl.2.1, by rw [← r1.length, ← big_eq]; exact hl.2.2, fun z n => q.lst m (r1.flatRep _) n⟩)
      · cases e
    · split at e
      · rename_i a k hl
        cases e
        subst hl
        obtain ⟨p, vs, rfl, h1, r1⟩ := hv
        cases (show y = .int 1 from hw)
        exact .inr (.inr (.inr ⟨p, vs, rfl, rfl, by rw [hK]; exact sqT_mono m h1, q.sh m ⟨p, vs, rfl, h1, r1⟩⟩))
      · split at e
        · rename_i a k _ _ hl
          cases e
          obtain ⟨p, vs, rfl, h1, r1⟩ := hv
          cases (show y = .int k from hw)
          refine .inr (.inr (.inl ⟨p, k, vs, rfl, rfl, by rw [hK]; exact sqT_mono m h1, fun z => ?_, hl.1, hl.2.1, by rw [← r1.length]; exact hl.2.2.2, fun z n => q.tup m (r1.flatRep _) n⟩))
          subst z
          have e : a = [] := List.eq_nil_of_length_eq_zero r1.length
          subst e
          cases hl.2.2.1
        · cases e
    · cases e
  · refine imp_op L2.op_mod fun x y H Q hr => ?_
    obtain ⟨G, v, w, ov, m, hv, hw, e, q⟩ := hr
    have e : bMod v w = some ov := e
    unfold bMod at e
    split at e
    · split at e
      · cases e
        rename_i hl
        exact ⟨_, _, hv, hw, hl, q.sh m rep_int⟩
      · cases e
    · cases e
  · refine imp_op L2.op_fdiv fun x y H Q hr => ?_
    obtain ⟨G, v, w, ov, m, hv, hw, e, q⟩ := hr
    have e : bDiv v w = some ov := e
    unfold bDiv at e
    split at e
    · split at e
      · cases e
        rename_i hl
        exact ⟨_, _, hv, hw, hl, q.sh m rep_int⟩
      · cases e
    · cases e
  · refine imp_op L2.op_pow fun x y H Q hr => ?_
    obtain ⟨G, v, w, ov, m, hv, hw, e, q⟩ := hr
    have e : bPow v w = some ov := e
    unfold bPow at e
    split at e
    · split at e
      · cases e
        rename_i hl
        exact ⟨_, _, hv, hw, hl, q.sh m rep_int⟩
      · cases e
    · cases e

/-! ### comparisons -/
mutual
/-- a tree as data -/
def pdat : PV → PyData
  | .non => .none
  | .bl b => .bool b
  | .int i => .int i
  | .str s => .str (mkS s)
  | .tup xs => .tuple (pdats xs)
  | .lst xs => .list (pdats xs)
  | .frz xs => .list (pdats xs)
  | .ins _ _ => .none
  | .dct _ _ => .none
def pdats : List PV → List PyData
  | [] => []
  | x :: xs => pdat x :: pdats xs
end
theorem mkS_inj {a b : Tx} (h : mkS a = mkS b) : a = b := by
  have e := congrArg (fun z : Str => z.cps.toList) h
  simpa [mkS] using e
theorem mkS_beq (a b : Tx) : (mkS a == mkS b) = (a == b) := by
  by_cases h : a = b
  · subst h; simp
  · have h2 : ¬ mkS a = mkS b := fun e => h (mkS_inj e)
    rw [beq_eq_false_iff_ne.mpr h, beq_eq_false_iff_ne.mpr h2]
mutual
theorem peq_eqv : ∀ (n k : Nat) (a b : PV), eqOk n a = true → eqOk k b = true → peq a b = PyData.eqv (pdat a) (pdat b)
  | n, k, .tup xs, .tup ys, h1, h2 => by
    cases n with
    | zero => cases h1
    | succ n =>
      cases k with
      | zero => cases h2
      | succ k => exact peqs_eqv n k xs ys h1 h2
  | n, k, .lst xs, .lst ys, h1, h2 => by
    cases n with
    | zero => cases h1
    | succ n =>
      cases k with
      | zero => cases h2
      | succ k => exact peqs_eqv n k xs ys h1 h2
  | _, _, .str a, .str b, _, _ => (mkS_beq a b).symm
  | n, _, .frz _, _, h1, _ => by cases n <;> cases h1
  | n, _, .ins _ _, _, h1, _ => by cases n <;> cases h1
  | n, _, .dct _ _, _, h1, _ => by cases n <;> cases h1
  | _, k, .non, .frz _, _, h2 => by cases k <;> cases h2
  | _, k, .non, .ins _ _, _, h2 => by cases k <;> cases h2
  | _, k, .non, .dct _ _, _, h2 => by cases k <;> cases h2
  | _, k, .bl _, .frz _, _, h2 => by cases k <;> cases h2
  | _, k, .bl _, .ins _ _, _, h2 => by cases k <;> cases h2
  | _, k, .bl _, .dct _ _, _, h2 => by cases k <;> cases h2
  | _, k, .int _, .frz _, _, h2 => by cases k <;> cases h2
  | _, k, .int _, .ins _ _, _, h2 => by cases k <;> cases h2
  | _, k, .int _, .dct _ _, _, h2 => by cases k <;> cases h2
  | _, k, .str _, .frz _, _, h2 => by cases k <;> cases h2
  | _, k, .str _, .ins _ _, _, h2 => by cases k <;> cases h2
  | _, k, .str _, .dct _ _, _, h2 => by cases k <;> cases h2
  | _, k, .tup _, .frz _, _, h2 => by cases k <;> cases h2
  | _, k, .tup _, .ins _ _, _, h2 => by cases k <;> cases h2
  | _, k, .tup _, .dct _ _, _, h2 => by cases k <;> cases h2
  | _, k, .lst _, .frz _, _, h2 => by cases k <;> cases h2
  | _, k, .lst _, .ins _ _, _, h2 => by cases k <;> cases h2
  | _, k, .lst _, .dct _ _, _, h2 => by cases k <;> cases h2
  | _, _, .non, .non, _, _ => rfl
  | _, _, .non, .bl _, _, _ => rfl
  | _, _, .non, .int _, _, _ => rfl
  | _, _, .non, .str _, _, _ => rfl
  | _, _, .non, .tup _, _, _ => rfl
  | _, _, .non, .lst _, _, _ => rfl
  | _, _, .bl _, .non, _, _ => rfl
  | _, _, .bl _, .bl _, _, _ => rfl
  | _, _, .bl _, .int _, _, _ => rfl
  | _, _, .bl _, .str _, _, _ => rfl
  | _, _, .bl _, .tup _, _, _ => rfl
  | _, _, .bl _, .lst _, _, _ => rfl
  | _, _, .int _, .non, _, _ => rfl
  | _, _, .int _, .bl _, _, _ => rfl
  | _, _, .int _, .int _, _, _ => rfl
  | _, _, .int _, .str _, _, _ => rfl
  | _, _, .int _, .tup _, _, _ => rfl
  | _, _, .int _, .lst _, _, _ => rfl
  | _, _, .str _, .non, _, _ => rfl
  | _, _, .str _, .bl _, _, _ => rfl
  | _, _, .str _, .int _, _, _ => rfl
  | _, _, .str _, .tup _, _, _ => rfl
  | _, _, .str _, .lst _, _, _ => rfl
  | _, _, .tup _, .non, _, _ => rfl
  | _, _, .tup _, .bl _, _, _ => rfl
  | _, _, .tup _, .int _, _, _ => rfl
  | _, _, .tup _, .str _, _, _ => rfl
  | _, _, .tup _, .lst _, _, _ => rfl
  | _, _, .lst _, .non, _, _ => rfl
  | _, _, .lst _, .bl _, _, _ => rfl
  | _, _, .lst _, .int _, _, _ => rfl
  | _, _, .lst _, .str _, _, _ => rfl
  | _, _, .lst _, .tup _, _, _ => rfl
theorem peqs_eqv : ∀ (n k : Nat) (a b : List PV), eqOks n a = true → eqOks k b = true → peqs a b = PyData.eqvAll (pdats a) (pdats b)
  | _, _, [], [], _, _ => rfl
  | _, _, [], _ :: _, _, _ => rfl
  | _, _, _ :: _, [], _, _ => rfl
  | n, k, x :: xs, y :: ys, h1, h2 => by
    have h1 : (eqOk n x && eqOks n xs) = true := h1
    have h2 : (eqOk k y && eqOks k ys) = true := h2
    rw [Bool.and_eq_true] at h1 h2
    show (peq x y && peqs xs ys) = (PyData.eqv (pdat x) (pdat y) && PyData.eqvAll (pdats xs) (pdats ys))
    rw [peq_eqv n k x y h1.1 h2.1, peqs_eqv n k xs ys h1.2 h2.2]
end
mutual
theorem eqOk_lay : ∀ (n : Nat) (a : PV), eqOk n a = true → (pdat a).canLay0 = true ∧ (pdat a).depth ≤ n
  | n, .non, _ => ⟨rfl, Nat.zero_le _⟩
  | n, .bl _, _ => ⟨rfl, Nat.zero_le _⟩
  | n, .int _, _ => ⟨rfl, Nat.zero_le _⟩
  | n, .str s, h => by
    have h : strOkT s = true := by cases n <;> exact h
    refine ⟨?_, Nat.zero_le _⟩
    show PyData.strOk (mkS s) = true
    unfold PyData.strOk mkS
    unfold strOkT at h
    simpa using h
  | 0, .tup _, h => by cases h
  | 0, .lst _, h => by cases h
  | n + 1, .tup xs, h => by
    obtain ⟨h1, h2⟩ := eqOks_lay n xs h
    exact ⟨h1, Nat.succ_le_succ h2⟩
  | n + 1, .lst xs, h => by
    obtain ⟨h1, h2⟩ := eqOks_lay n xs h
    exact ⟨h1, Nat.succ_le_succ h2⟩
  | n, .frz _, h => by cases n <;> cases h
  | n, .ins _ _, h => by cases n <;> cases h
  | n, .dct _ _, h => by cases n <;> cases h
theorem eqOks_lay : ∀ (n : Nat) (a : List PV), eqOks n a = true → PyData.canLayAll0 (pdats a) = true ∧ PyData.depthAll (pdats a) ≤ n
  | n, [], _ => ⟨rfl, Nat.zero_le _⟩
  | n, x :: xs, h => by
    have h : (eqOk n x && eqOks n xs) = true := h
    rw [Bool.and_eq_true] at h
    obtain ⟨h1, h2⟩ := eqOk_lay n x h.1
    obtain ⟨h3, h4⟩ := eqOks_lay n xs h.2
    refine ⟨?_, ?_⟩
    · show ((pdat x).canLay0 && PyData.canLayAll0 (pdats xs)) = true
      rw [h1, h3]; rfl
    · show max _ _ ≤ n
      exact Nat.max_le.mpr ⟨h2, h4⟩
end
theorem eqOk_shaped {a : PV} (h : eqOk 16 a = true) : SeqAt.shaped (pdat a) = true := by
  obtain ⟨h1, h2⟩ := eqOk_lay 16 a h
  unfold SeqAt.shaped
  rw [h1, decide_eq_true (Nat.le_trans h2 (by decide))]; rfl
mutual
theorem rep_dp : ∀ (n : Nat) (a : PV) (x : V), eqOk n a = true → Rep g H a x → L2.Dp g.K H x (pdat a)
  | _, .non, _, _, h => by cases (show _ = V.non from h); exact .non
  | _, .bl b, _, _, h => by cases (show _ = V.bl b from h); exact .bl b
  | _, .int i, _, _, h => by cases (show _ = V.int i from h); exact .int i
  | _, .str s, _, _, h => by cases (show _ = V.str (mkS s) from h); exact .str _
  | n, .tup xs, _, h0, h => by
    obtain ⟨a, vs, rfl, h1, r⟩ := h
    cases n with
    | zero => cases h0
    | succ n => exact .tup h1 (reps_dp n xs vs h0 r)
  | n, .lst xs, _, h0, h => by
    obtain ⟨a, vs, rfl, h1, r⟩ := h
    cases n with
    | zero => cases h0
    | succ n => exact .lst (.inl (.inl h1)) (reps_dp n xs vs h0 r)
  | n, .frz _, _, h0, _ => by cases n <;> cases h0
  | n, .ins _ _, _, h0, _ => by cases n <;> cases h0
  | n, .dct _ _, _, h0, _ => by cases n <;> cases h0
theorem reps_dp : ∀ (n : Nat) (a : List PV) (x : List V), eqOks n a = true → Reps g H a x → L2.DpAll g.K H x (pdats a)
  | _, [], _, _, h => by cases (show _ = [] from h); exact .nil
  | n, a :: as, _, h0, h => by
    obtain ⟨v, r, rfl, h1, h2⟩ := h
    have h0 : (eqOk n a && eqOks n as) = true := h0
    rw [Bool.and_eq_true] at h0
    exact .cons (rep_dp n a v h0.1 h1) (reps_dp n as r h0.2 h2)
end
def rCmp (g : Gm) (o : COp) : L2.R2 := fun x y H Q => ∃ G v w k, Same G H ∧ PkR g G H v x ∧ PkR g G H w y ∧ cmpop o v w = some k ∧ Q (.bl k) H
theorem cLt_some {v w : PV} {k : Bool} (h : cLt v w = some k) : ∃ a b, v = .int a ∧ w = .int b ∧ k = decide (a < b) := by
  unfold cLt at h
  split at h
  · cases h; exact ⟨_, _, rfl, rfl, rfl⟩
  · cases h
theorem cLe_some {v w : PV} {k : Bool} (h : cLe v w = some k) : ∃ a b, v = .int a ∧ w = .int b ∧ k = decide (a ≤ b) := by
  unfold cLe at h
  split at h
  · cases h; exact ⟨_, _, rfl, rfl, rfl⟩
  · cases h
theorem op_cmp (hK : X.K = g.K) (hu : X.A.units + 64 < cLine) {o : COp} {op : CmpOp} (h : opC o op = true) : OpR X (compareOp op) (rCmp g o) := by
  cases o <;> cases op <;> first | (exact absurd (show false = true from h) Bool.false_ne_true) | skip
  · refine imp_op (L2.op_eqD hu) fun x y H Q hr => ?_
    obtain ⟨G, v, w, k, m, hv, hw, e, q⟩ := hr
    have e : (if (eqOk 16 v && eqOk 16 w) = true then some (peq v w) else none) = some k := e
    split at e
    · rename_i hk
      rw [Bool.and_eq_true] at hk
      cases e
      refine ⟨pdat v, pdat w, ?_, ?_, eqOk_shaped hk.1, eqOk_shaped hk.2, ?_⟩
      · rw [hK]; exact rep_dp 16 v x hk.1 (hv.rep m)
      · rw [hK]; exact rep_dp 16 w y hk.2 (hw.rep m)
      · rw [← peq_eqv 16 16 v w hk.1 hk.2]; exact q
    · cases e
  · refine imp_op (L2.op_neD hu) fun x y H Q hr => ?_
    obtain ⟨G, v, w, k, m, hv, hw, e, q⟩ := hr
    have e : (if (eqOk 16 v && eqOk 16 w) = true then some (!peq v w) else none) = some k := e
    split at e
    · rename_i hk
      rw [Bool.and_eq_true] at hk
      cases e
      refine ⟨pdat v, pdat w, ?_, ?_, eqOk_shaped hk.1, eqOk_shaped hk.2, ?_⟩
      · rw [hK]; exact rep_dp 16 v x hk.1 (hv.rep m)
      · rw [hK]; exact rep_dp 16 w y hk.2 (hw.rep m)
      · rw [← peq_eqv 16 16 v w hk.1 hk.2]; exact q
    · cases e
  · refine imp_op L2.op_lt fun x y H Q hr => ?_
    obtain ⟨G, v, w, k, m, hv, hw, e, q⟩ := hr
    obtain ⟨a, b, rfl, rfl, rfl⟩ := cLt_some e
    exact ⟨_, _, hv, hw, q⟩
  · refine imp_op L2.op_le fun x y H Q hr => ?_
    obtain ⟨G, v, w, k, m, hv, hw, e, q⟩ := hr
    obtain ⟨a, b, rfl, rfl, rfl⟩ := cLe_some e
    exact ⟨_, _, hv, hw, q⟩
  · refine imp_op L2.op_gt fun x y H Q hr => ?_
    obtain ⟨G, v, w, k, m, hv, hw, e, q⟩ := hr
    obtain ⟨a, b, rfl, rfl, rfl⟩ := cLt_some e
    exact ⟨_, _, hv, hw, q⟩
  · refine imp_op L2.op_ge fun x y H Q hr => ?_
    obtain ⟨G, v, w, k, m, hv, hw, e, q⟩ := hr
    obtain ⟨a, b, rfl, rfl, rfl⟩ := cLe_some e
    exact ⟨_, _, hv, hw, q⟩
end
end PF
set_option Elab.async false
set_option linter.all false
set_option maxRecDepth 100000
/-! PF, part d: more operations. -/
namespace PF
open PySem PySem.Spec PyProof.Rows
open L2 (V Hp HO upd upd_same upd_ne Same SqL SqT WX PE PT PA PC OpR CallR IxR SlR MtR TruR VK)
section
variable {g : Gm} {X : L2.Cx} {G H : Hp}
/-! ### in -/
theorem flat_rep {v : PV} {x : V} (h : Rep g G v x) : flatP v = L2.flatV x := by
  cases v with
  | non => cases (show x = _ from h); rfl
  | bl b => cases (show x = _ from h); rfl
  | int b => cases (show x = _ from h); rfl
  | str b => cases (show x = _ from h); rfl
  | tup _ => obtain ⟨a, vs, rfl, _⟩ := h; rfl
  | lst _ => obtain ⟨a, vs, rfl, _⟩ := h; rfl
  | frz _ => obtain ⟨a, vs, rfl, _⟩ := h; rfl
  | ins _ _ => obtain ⟨kn, a, dx, vs, rfl, _⟩ := h; rfl
  | dct _ _ => obtain ⟨a, kvs, rfl, _⟩ := h; rfl
theorem flats_rep : ∀ {xs : List PV} {vs : List V}, Reps g G xs vs → xs.all flatP = vs.all L2.flatV
  | [], _, h => by cases (show _ = [] from h); rfl
  | x :: xs, _, h => by
    obtain ⟨v, r, rfl, h1, h2⟩ := h
    rw [List.all_cons, List.all_cons, flat_rep h1, flats_rep h2]
theorem eqP_rep {v w : PV} {x y : V} (h : Rep g G v x) (k : Rep g G w y) (f : flatP v = true) (f2 : flatP w = true) : eqP v w = L2.eqV x y := by
  cases v <;> first | (exact absurd (show false = true from f) Bool.false_ne_true) | skip
  all_goals (cases w <;> first | (exact absurd (show false = true from f2) Bool.false_ne_true) | skip)
  all_goals (cases (show x = _ from h); cases (show y = _ from k))
  all_goals first | rfl | exact (mkS_beq _ _).symm
theorem anyEq_rep {x : PV} {v : V} (h : Rep g G x v) (f : flatP x = true) : ∀ {xs : List PV} {vs : List V}, Reps g G xs vs → xs.all flatP = true → (xs.any fun z => eqP z x) = vs.any fun z => L2.eqV z v
  | [], _, r, _ => by cases (show _ = [] from r); rfl
  | y :: ys, _, r, f2 => by
    obtain ⟨w, r, rfl, h1, h2⟩ := r
    rw [List.all_cons, Bool.and_eq_true] at f2
    rw [List.any_cons, List.any_cons, eqP_rep h1 h f2.1 f, anyEq_rep h f h2 f2.2]
def rInn (g : Gm) (ng : Bool) : L2.R2 := fun x y H Q => ∃ G v w k, Same G H ∧ PkR g G H v x ∧ PkR g G H w y ∧ inop v w = some k ∧ Q (.bl (k != ng)) H
theorem pk_flat {v : PV} {x : V} (f : flatP v = true) (h : PkR g G H v x) : Rep g G v x := by
  cases v <;> first | exact h | (exact absurd (show false = true from f) Bool.false_ne_true)
theorem inop_some {v w : PV} {k : Bool} (e : inop v w = some k) : ∃ xs, items w = some xs ∧ flatP v = true ∧ xs.all flatP = true ∧ k = xs.any fun z => eqP z v := by
  unfold inop at e
  split at e
  · split at e
    · rename_i h
      rw [Bool.and_eq_true] at h
      cases e
      exact ⟨_, rfl, h.1, h.2, rfl⟩
    · cases e
  · split at e
    · rename_i h
      rw [Bool.and_eq_true] at h
      cases e
      exact ⟨_, rfl, h.1, h.2, rfl⟩
    · cases e
  · cases e
theorem op_inn (hK : X.K = g.K) {ng : Bool} : OpR X (compareOp (if ng then .NotIn else .In)) (rInn g ng) := by
  cases ng with
  | false =>
    refine imp_op L2.op_in_seq fun x y H Q hr => ?_
    obtain ⟨G, v, w, k, m, hv, hw, e, q⟩ := hr
    obtain ⟨xs, ei, f1, f2, rfl⟩ := inop_some e
    obtain ⟨a, vs, rfl, hs, r⟩ := pk_items m hw ei
    have hv := pk_flat f1 hv
    refine ⟨a, vs, rfl, by rw [hK]; exact hs, by rw [← flat_rep hv]; exact f1, by rw [← flats_rep r]; exact f2, ?_⟩
    have e2 : L2.inV x vs = xs.any fun z => eqP z v := (anyEq_rep hv f1 r f2).symm
    rw [if_neg Bool.false_ne_true, e2]
    simpa using q
  | true =>
    refine imp_op L2.op_notIn_seq fun x y H Q hr => ?_
    obtain ⟨G, v, w, k, m, hv, hw, e, q⟩ := hr
    obtain ⟨xs, ei, f1, f2, rfl⟩ := inop_some e
    obtain ⟨a, vs, rfl, hs, r⟩ := pk_items m hw ei
    have hv := pk_flat f1 hv
    refine ⟨a, vs, rfl, by rw [hK]; exact hs, by rw [← flat_rep hv]; exact f1, by rw [← flats_rep r]; exact f2, ?_⟩
    have e2 : L2.inV x vs = xs.any fun z => eqP z v := (anyEq_rep hv f1 r f2).symm
    rw [if_pos rfl, e2]
    simpa using q

/-! ### items, slices -/
def rIxx (g : Gm) : L2.R2 := fun x y H Q => ∃ G v w z, Same G H ∧ PkR g G H v x ∧ Rep g G w y ∧ index v w = some z ∧ ∀ u, Rep g G z u → Q u H
theorem atI_rep {xs : List PV} {vs : List V} {k : Int} {z : PV} (r : Reps g G xs vs) (e : (ixN xs.length k).bind (fun j => xs[j]?) = some z) : ∃ u, L2.atI vs k = some u ∧ Rep g G z u := by
  cases h : ixN xs.length k with
  | none => rw [h] at e; cases e
  | some j =>
    rw [h] at e
    obtain ⟨u, e1, e2⟩ := r.get (i := j) e
    refine ⟨u, ?_, e2⟩
    show (L2.ixN vs.length k).bind (fun j => vs[j]?) = some u
    rw [← r.length]
    show (ixN xs.length k).bind (fun j => vs[j]?) = some u
    rw [h]; exact e1
theorem index_some {p w z : PV} (e : index p w = some z) : ∃ xs k, items p = some xs ∧ w = .int k ∧ (ixN xs.length k).bind (fun j => xs[j]?) = some z := by
  unfold index at e
  cases h : items p with
  | none => rw [h] at e; cases e
  | some xs =>
    rw [h] at e
    cases w with
    | int k => exact ⟨xs, k, rfl, rfl, e⟩
    | _ => cases e
theorem ix_ok (hK : X.K = g.K) : IxR X (rIxx g) := by
  have b := (L2.ix_list (X := X)).or L2.ix_tup
  intro value slice pins s σ H x y v u Q I rx ry h hs
  refine b value slice pins s σ H x y v u Q I rx ry ?_ hs
  obtain ⟨G, p, w, z, m, hv, hw, e, q⟩ := h
  obtain ⟨xs, k, ei, ew, e9⟩ := index_some e
  subst ew
  cases (show y = .int k from hw)
  obtain ⟨a, vs, rfl, hq, r⟩ := pk_items m hv ei
  obtain ⟨u, e1, e2⟩ := atI_rep r e9
  rcases hq with hq | hq
  · exact .inl ⟨a, vs, k, u, rfl, rfl, by rw [hK]; exact hq, e1, q u e2⟩
  · exact .inr ⟨a, vs, k, u, rfl, rfl, by rw [hK]; exact hq, e1, q u e2⟩
theorem cut_rep {xs : List PV} {vs : List V} (r : Reps g G xs vs) (lo hi : Option Int) : Reps g G (cut xs lo hi) (L2.cutV vs lo hi) := by
  have e : ∀ n d (o : Option Int), HT.sIx n d o = sIx n d o := fun n d o => by cases o <;> rfl
  unfold cut L2.cutV
  rw [e, e, ← r.length]
  exact (r.drop _).take _
def rSll (g : Gm) : V → Option Int → Option Int → Hp → VK → Prop := fun x lo hi H Q => ∃ G v ov, Same G H ∧ PkR g G H v x ∧ slice v lo hi = some ov ∧ Out g G H ov Q
theorem cut_whole {α : Type} {xs : List α} {lo hi : Option Int} (h : sIx xs.length 0 lo = 0 ∧ sIx xs.length xs.length hi = xs.length) : cut xs lo hi = xs := by
  unfold cut
  rw [h.1, h.2]; simp
theorem sl_ok (hK : X.K = g.K) : SlR X (rSll g) := by
  have b := (L2.sl_list (X := X)).or L2.sl_tupA
  intro pins s σ H x v vl vu lo hi sl Q I rx hs pl pu h
  refine b pins s σ H x v vl vu lo hi sl Q I rx hs pl pu ?_
  obtain ⟨G, p, ov, m, hv, e, q⟩ := h
  cases p with
  | lst xs =>
    cases e
    obtain ⟨a, vs, rfl, h1, r⟩ := hv
    exact .inl ⟨a, vs, rfl, .inl (.inl h1), fun z n => q.lst m (cut_rep r lo hi) n⟩
  | frz xs =>
    cases e
    obtain ⟨a, vs, rfl, h1, r⟩ := hv
    exact .inl ⟨a, vs, rfl, by rw [hK]; exact m.seq h1, fun z n => q.lst m (cut_rep r lo hi) n⟩
  | tup xs =>
    cases e
    obtain ⟨a, vs, rfl, h1, r⟩ := hv
    refine .inr ⟨a, vs, rfl, by rw [hK]; exact sqT_mono m h1, fun z => ?_, fun _ z n => q.tup m (cut_rep r lo hi) n⟩
    have e : ∀ n d (o : Option Int), HT.sIx n d o = sIx n d o := fun n d o => by cases o <;> rfl
    rw [e, e, ← r.length] at z
    rw [cut_whole z] at q
    exact q.sh m ⟨a, vs, rfl, h1, r⟩
  | _ => cases e
theorem rev_some {v : PV} {ov : OV} {x : V} (m : Same G H) (hv : PkR g G H v x) (e : reversed v = some ov) : ∃ a vs xs, x = .ref a ∧ Reps g G xs vs ∧ ((SqL g.K H a vs ∧ ov = .lst xs.reverse) ∨ (SqT g.K H a vs ∧ ov = .sh (.tup xs.reverse))) := by
  cases v with
  | lst xs =>
    cases e
    obtain ⟨a, vs, rfl, h1, r⟩ := hv
    exact ⟨a, vs, xs, rfl, r, .inl ⟨.inl (.inl h1), rfl⟩⟩
  | frz xs =>
    cases e
    obtain ⟨a, vs, rfl, h1, r⟩ := hv
    exact ⟨a, vs, xs, rfl, r, .inl ⟨m.seq h1, rfl⟩⟩
  | tup xs =>
    cases e
    obtain ⟨a, vs, rfl, h1, r⟩ := hv
    exact ⟨a, vs, xs, rfl, r, .inr ⟨sqT_mono m h1, rfl⟩⟩
  | _ => cases e

/-! ### built-ins -/
def rBi (g : Gm) (b : Bi) : List V → Hp → VK → Prop := fun xs H Q => ∃ G vs ov, Same G H ∧ ((∃ v x, vs = [v] ∧ xs = [x] ∧ PkR g G H v x) ∨ (vs.length ≠ 1 ∧ Reps g G vs xs)) ∧ bi b vs = some ov ∧ Out g G H ov Q
def biV : Bi → Value
  | .len => .builtin "len" | .abs => .builtin "abs" | .max2 => .builtin "max" | .min2 => .builtin "min" | .tuple => .type "tuple" | .list => .type "list" | .int => .type "int"
  | .all => .builtin "all" | .any => .builtin "any" | .sum => .builtin "sum" | .repr => .builtin "repr"
theorem one_of {vs : List PV} {xs : List V} {v : PV} (h : (∃ w x, vs = [w] ∧ xs = [x] ∧ PkR g G H w x) ∨ (vs.length ≠ 1 ∧ Reps g G vs xs)) (e : vs = [v]) : ∃ x, xs = [x] ∧ PkR g G H v x := by
  rcases h with ⟨w, x, e1, e2, h⟩ | ⟨h, _⟩
  · rw [e] at e1; cases e1; exact ⟨x, e2, h⟩
  · rw [e] at h; exact absurd rfl h
theorem two_of {vs : List PV} {xs : List V} {v w : PV} (h : (∃ w x, vs = [w] ∧ xs = [x] ∧ PkR g G H w x) ∨ (vs.length ≠ 1 ∧ Reps g G vs xs)) (e : vs = [v, w]) : ∃ x y, xs = [x, y] ∧ Rep g G v x ∧ Rep g G w y := by
  rcases h with ⟨w, x, e1, _⟩ | ⟨_, h⟩
  · rw [e] at e1; cases e1
  · rw [e] at h
    obtain ⟨x, r, rfl, h1, y, r2, rfl, h2, h3⟩ := h
    cases (show r2 = [] from h3)
    exact ⟨x, y, rfl, h1, h2⟩
theorem toInts_rep : ∀ {xs : List PV} {vs : List V} {ns : List Int}, toInts xs = some ns → Reps g G xs vs → vs = ns.map V.int
  | [], _, _, e, h => by cases e; cases (show _ = [] from h); rfl
  | x :: xs, _, ns, e, h => by
    obtain ⟨v, r, rfl, h1, h2⟩ := h
    cases x with
    | int i =>
      have e : (toInts xs).map (i :: ·) = some ns := e
      cases k : toInts xs with
      | none => rw [k] at e; cases e
      | some ms =>
        rw [k] at e; cases e
        cases (show v = .int i from h1)
        rw [toInts_rep k h2]; rfl
    | _ => cases e
theorem toBls_rep : ∀ {xs : List PV} {vs : List V} {ns : List Bool}, toBls xs = some ns → Reps g G xs vs → vs = ns.map V.bl
  | [], _, _, e, h => by cases e; cases (show _ = [] from h); rfl
  | x :: xs, _, ns, e, h => by
    obtain ⟨v, r, rfl, h1, h2⟩ := h
    cases x with
    | bl i =>
      have e : (toBls xs).map (i :: ·) = some ns := e
      cases k : toBls xs with
      | none => rw [k] at e; cases e
      | some ms =>
        rw [k] at e; cases e
        cases (show v = .bl i from h1)
        rw [toBls_rep k h2]; rfl
    | _ => cases e
theorem mkS_len (s : Tx) : (mkS s).length = s.length := by simp [mkS, Str.length]
theorem bi_one {b : Bi} {vs : List PV} {ov : OV} (e : bi b vs = some ov) (hb : b ≠ .max2 ∧ b ≠ .min2) : ∃ v, vs = [v] := by
  unfold bi at e
  split at e <;> first | exact ⟨_, rfl⟩ | (cases e; done) | exact absurd rfl hb.1 | exact absurd rfl hb.2
mutual
theorem reads_of {pins : List (Addr × Obj)} {σ : L2.St} {s : Shared} (hK : X.K = g.K) (I : L2.Inv X pins σ H s) : ∀ {v : PV} {x : V} {u : Value} {d : PyData}, Rep g H v x → L2.RelV x u → toD v = some d → d.hasDict = false ∧ ∃ as, Reads s.heap u d as
  | .non, x, u, d, r, rv, e => by
    cases e; cases (show x = .non from r); cases (show u = .none from rv)
    exact ⟨rfl, _, .none⟩
  | .bl b, x, u, d, r, rv, e => by
    cases e; cases (show x = .bl b from r); cases (show u = .bool b from rv)
    exact ⟨rfl, _, .bool b⟩
  | .int i, x, u, d, r, rv, e => by
    cases e; cases (show x = .int i from r)
    obtain ⟨t, rfl⟩ := rv
    exact ⟨rfl, _, .int i t⟩
  | .str z, x, u, d, r, rv, e => by
    cases e; cases (show x = .str (mkS z) from r)
    obtain ⟨t, rfl⟩ := rv
    exact ⟨rfl, _, .str _ t⟩
  | .tup xs, x, u, d, r, rv, e => by
    have e : (toDs xs).map .tuple = some d := e
    cases q : toDs xs with
    | none => rw [q] at e; cases e
    | some ds =>
      rw [q] at e; cases e
      obtain ⟨a, vs, rfl, hq, rs⟩ := r
      cases (show u = .ref a from rv)
      obtain ⟨its, rvs, ⟨o, ho, hc, n, hd⟩, _⟩ := I.tuple (by rw [hK]; exact hq)
      obtain ⟨h1, as, h2⟩ := readss_of hK I rs rvs q
      exact ⟨h1, _, .tuple ho hc hd (by simpa using h2)⟩
  | .lst xs, x, u, d, r, rv, e => by
    have e : (toDs xs).map .list = some d := e
    cases q : toDs xs with
    | none => rw [q] at e; cases e
    | some ds =>
      rw [q] at e; cases e
      obtain ⟨a, vs, rfl, hq, rs⟩ := r
      cases (show u = .ref a from rv)
      obtain ⟨its, rvs, ⟨o, n, ho, hc, _, hd⟩, _⟩ := I.list (.inl (.inl hq))
      obtain ⟨h1, as, h2⟩ := readss_of hK I rs rvs q
      exact ⟨h1, _, .list ho hc hd (by simpa using h2)⟩
  | .frz xs, x, u, d, r, rv, e => by
    have e : (toDs xs).map .list = some d := e
    cases q : toDs xs with
    | none => rw [q] at e; cases e
    | some ds =>
      rw [q] at e; cases e
      obtain ⟨a, vs, rfl, hq, rs⟩ := r
      cases (show u = .ref a from rv)
      obtain ⟨its, rvs, ⟨o, n, ho, hc, _, hd⟩, _⟩ := I.list (by rw [hK]; exact hq)
      obtain ⟨h1, as, h2⟩ := readss_of hK I rs rvs q
      exact ⟨h1, _, .list ho hc hd (by simpa using h2)⟩
  | .ins _ _, x, u, d, r, rv, e => by cases e
  | .dct _ _, x, u, d, r, rv, e => by cases e
theorem readss_of {pins : List (Addr × Obj)} {σ : L2.St} {s : Shared} (hK : X.K = g.K) (I : L2.Inv X pins σ H s) : ∀ {vs : List PV} {xs : List V} {us : List Value} {ds : List PyData}, Reps g H vs xs → L2.Vals xs us → toDs vs = some ds → PyData.hasDictAll ds = false ∧ ∃ as, ReadsAll s.heap us ds as
  | [], xs, us, ds, r, rv, e => by
    cases e; cases (show xs = [] from r); cases rv
    exact ⟨rfl, _, .nil⟩
  | v :: vs, xs, us, ds, r, rv, e => by
    obtain ⟨x, xr, rfl, r1, r2⟩ := r
    have e : ((toD v).bind fun d => (toDs vs).map fun r => d :: r) = some ds := e
    cases q1 : toD v with
    | none => rw [q1] at e; cases e
    | some d =>
      rw [q1] at e
      have e : ((toDs vs).map fun r => d :: r) = some ds := e
      cases q2 : toDs vs with
      | none => rw [q2] at e; cases e
      | some dr =>
        rw [q2] at e; cases e
        cases rv with
        | cons rv1 rv2 =>
          obtain ⟨h1, as, k1⟩ := reads_of hK I r1 rv1 q1
          obtain ⟨h2, bs, k2⟩ := readss_of hK I r2 rv2 q2
          exact ⟨by simp only [PyData.hasDictAll, h1, h2, Bool.or_self], _, .cons k1 k2⟩
end
theorem call_reprV (hK : X.K = g.K) (gd : X.A.guards = some []) (hu : X.A.units + 100 < cLine) : CallR X (.builtin "repr") (rBi g .repr) := by
  intro pins s σ H xs us Q I r h
  obtain ⟨G, vs, ov, m, hv, e, q⟩ := h
  obtain ⟨v, rfl⟩ := bi_one e ⟨by decide, by decide⟩
  obtain ⟨x, rfl, hp⟩ := one_of hv rfl
  obtain ⟨u, rfl, rv⟩ := L2.vals1 r
  have e : (reprV v).map (fun t => OV.sh (.str t)) = some ov := e
  cases hr : reprV v with
  | none => rw [hr] at e; cases e
  | some t =>
    rw [hr] at e; cases e
    unfold reprV at hr
    cases hd : toD v with
    | none => rw [hd] at hr; cases hr
    | some d =>
      rw [hd, Option.bind_some] at hr
      split at hr
      · rename_i hc
        cases hr
        simp only [Bool.and_eq_true, decide_eq_true_eq] at hc
        obtain ⟨⟨h1, h2⟩, h3⟩ := hc
        have hsz : d.shown.length ≤ sizeLine := by rw [← big_eq]; exact h3
        have rp := hp.rep m
        obtain ⟨nd, as, rd⟩ := reads_of hK I rp rv hd
        have et : mkS d.shown.cps.toList = d.shown := by unfold mkS; simp
        have fin : ∀ h' (tk t2 : Nat), (∀ b o, s.heap.get? b = some o → h'.get? b = some o) → L2.EP X pins σ Q (.str d.shown tk) { s with heap := h', toks := t2 } := fun h' tk t2 k => by
          refine ⟨.str (mkS d.shown.cps.toList), H, I.kept k, ⟨tk, by rw [et]⟩, q.sh m rfl⟩
        cases rd with
        | none => exact PySem.P.repr_of_none (fin s.heap _ _ fun _ _ z => z)
        | bool b => exact PySem.P.repr_of_bool (fin s.heap _ _ fun _ _ z => z)
        | int i t => exact PySem.P.repr_of_int (by simpa [PyData.showable] using h1) (fin s.heap _ _ fun _ _ z => z)
        | str y t => exact PySem.P.repr_of_str (fin s.heap _ _ fun _ _ z => z) hsz
        | list a1 a2 a3 a4 => exact PySem.repr_of_reads' (.list a1 a2 a3 a4) h1 (PyData.noDict_hsm nd) gd (by omega) (fun _ _ z => z) (fun h' u tk k => fin h' u tk k) hsz
        | tuple a1 a2 a3 a4 => exact PySem.repr_of_reads' (.tuple a1 a2 a3 a4) h1 (PyData.noDict_hsm nd) gd (by omega) (fun _ _ z => z) (fun h' u tk k => fin h' u tk k) hsz
        | dict a1 a2 a3 a4 a5 => cases nd
      · cases hr
theorem call_bi (hK : X.K = g.K) (hc : X.calm = true) (gd : X.A.guards = some []) (hu : X.A.units + 100 < cLine) (b : Bi) : CallR X (biV b) (rBi g b) := by
  cases b with
  | len =>
    refine imp_call L2.call_len fun xs H Q hr => ?_
    obtain ⟨G, vs, ov, m, hv, e, q⟩ := hr
    obtain ⟨v, rfl⟩ := bi_one e ⟨by decide, by decide⟩
    obtain ⟨x, rfl, hp⟩ := one_of hv rfl
    cases v with
    | str s =>
      have e : (if s.length ≤ big then some (OV.sh (.int s.length)) else none) = some ov := e
      split at e
      · rename_i hl
        cases e
        cases (show x = .str (mkS s) from hp)
        refine ⟨_, s.length, rfl, ⟨?_, (mkS_len s).symm⟩, q.sh m rep_int⟩
        rw [mkS_len, ← big_eq]; exact hl
      · cases e
    | lst ys =>
      cases e
      obtain ⟨a, vs, rfl, h1, r⟩ := hp
      exact ⟨_, ys.length, rfl, .inl ⟨vs, .inl (.inl h1), r.length⟩, q.sh m rep_int⟩
    | tup ys =>
      cases e
      obtain ⟨a, vs, rfl, h1, r⟩ := hp
      exact ⟨_, ys.length, rfl, .inr ⟨vs, by rw [hK]; exact sqT_mono m h1, r.length⟩, q.sh m rep_int⟩
    | frz ys =>
      cases e
      obtain ⟨a, vs, rfl, h1, r⟩ := hp
      exact ⟨_, ys.length, rfl, .inl ⟨vs, by rw [hK]; exact m.seq h1, r.length⟩, q.sh m rep_int⟩
    | _ => cases e
  | abs =>
    refine imp_call L2.call_abs fun xs H Q hr => ?_
    obtain ⟨G, vs, ov, m, hv, e, q⟩ := hr
    obtain ⟨v, rfl⟩ := bi_one e ⟨by decide, by decide⟩
    obtain ⟨x, rfl, hp⟩ := one_of hv rfl
    cases v with
    | int i =>
      cases e
      cases (show x = .int i from hp)
      exact ⟨i, rfl, q.sh m rep_int⟩
    | _ => cases e
  | max2 =>
    refine imp_call (L2.call_max2 hc) fun xs H Q hr => ?_
    obtain ⟨G, vs, ov, m, hv, e, q⟩ := hr
    unfold bi at e
    split at e <;> first | (cases e; done) | skip
    all_goals rename_i h1; first | (cases h1; done) | skip
    cases e
    obtain ⟨x, y, rfl, e1, e2⟩ := two_of hv rfl
    cases (show x = .int _ from e1)
    cases (show y = .int _ from e2)
    exact ⟨_, _, rfl, q.sh m rep_int⟩
  | min2 =>
    refine imp_call (L2.call_min2 hc) fun xs H Q hr => ?_
    obtain ⟨G, vs, ov, m, hv, e, q⟩ := hr
    unfold bi at e
    split at e <;> first | (cases e; done) | skip
    all_goals rename_i h1; first | (cases h1; done) | skip
    cases e
    obtain ⟨x, y, rfl, e1, e2⟩ := two_of hv rfl
    cases (show x = .int _ from e1)
    cases (show y = .int _ from e2)
    exact ⟨_, _, rfl, q.sh m rep_int⟩
  | tuple =>
    refine imp_call L2.call_tuple_of fun xs H Q hr => ?_
    obtain ⟨G, vs, ov, m, hv, e, q⟩ := hr
    obtain ⟨v, rfl⟩ := bi_one e ⟨by decide, by decide⟩
    obtain ⟨x, rfl, hp⟩ := one_of hv rfl
    cases v with
    | tup ys =>
      cases e
      obtain ⟨a, vs, rfl, h1, r⟩ := hp
      exact ⟨a, vs, rfl, .inr ⟨by rw [hK]; exact sqT_mono m h1, q.sh m ⟨a, vs, rfl, h1, r⟩⟩⟩
    | lst ys =>
      cases e
      obtain ⟨a, vs, rfl, h1, r⟩ := hp
      exact ⟨a, vs, rfl, .inl ⟨.inl (.inl h1), fun z n => q.tup m r n⟩⟩
    | frz ys =>
      cases e
      obtain ⟨a, vs, rfl, h1, r⟩ := hp
      exact ⟨a, vs, rfl, .inl ⟨by rw [hK]; exact m.seq h1, fun z n => q.tup m r n⟩⟩
    | _ => cases e
  | list =>
    refine imp_call L2.call_list_of fun xs H Q hr => ?_
    obtain ⟨G, vs, ov, m, hv, e, q⟩ := hr
    obtain ⟨v, rfl⟩ := bi_one e ⟨by decide, by decide⟩
    obtain ⟨x, rfl, hp⟩ := one_of hv rfl
    have e : (items v).map (fun xs => OV.lst xs) = some ov := by
      cases v <;> exact e
    cases k : items v with
    | none => rw [k] at e; cases e
    | some ys =>
      rw [k] at e; cases e
      obtain ⟨a, vs, rfl, hq, r⟩ := pk_items m hp k
      exact ⟨a, vs, rfl, by rw [hK]; exact hq, fun z n => q.lst m r n⟩
  | int =>
    refine imp_call L2.call_int1 fun xs H Q hr => ?_
    obtain ⟨G, vs, ov, m, hv, e, q⟩ := hr
    obtain ⟨v, rfl⟩ := bi_one e ⟨by decide, by decide⟩
    obtain ⟨x, rfl, hp⟩ := one_of hv rfl
    cases v with
    | int i =>
      cases e
      cases (show x = .int i from hp)
      exact .inl ⟨i, rfl, q.sh m rep_int⟩
    | bl i =>
      cases e
      cases (show x = .bl i from hp)
      exact .inr ⟨i, rfl, q.sh m (rep_int (i := b2 i))⟩
    | _ => cases e
  | all =>
    refine imp_call (L2.cr_all hc) fun xs H Q hr => ?_
    obtain ⟨G, vs, ov, m, hv, e, q⟩ := hr
    obtain ⟨v, rfl⟩ := bi_one e ⟨by decide, by decide⟩
    obtain ⟨x, rfl, hp⟩ := one_of hv rfl
    cases v with
    | lst ys =>
      have e : (toBls ys).map (fun bs => OV.sh (.bl (bs.all id))) = some ov := e
      cases k : toBls ys with
      | none => rw [k] at e; cases e
      | some bs =>
        rw [k] at e; cases e
        obtain ⟨a, vs, rfl, h1, r⟩ := hp
        exact ⟨a, bs, rfl, .inl (.inl (by rw [h1, toBls_rep k r])), q.sh m rep_bl⟩
    | _ => cases e
  | any =>
    refine imp_call (L2.cr_any hc) fun xs H Q hr => ?_
    obtain ⟨G, vs, ov, m, hv, e, q⟩ := hr
    obtain ⟨v, rfl⟩ := bi_one e ⟨by decide, by decide⟩
    obtain ⟨x, rfl, hp⟩ := one_of hv rfl
    cases v with
    | lst ys =>
      have e : (toBls ys).map (fun bs => OV.sh (.bl (bs.any id))) = some ov := e
      cases k : toBls ys with
      | none => rw [k] at e; cases e
      | some bs =>
        rw [k] at e; cases e
        obtain ⟨a, vs, rfl, h1, r⟩ := hp
        exact ⟨a, bs, rfl, .inl (.inl (by rw [h1, toBls_rep k r])), q.sh m rep_bl⟩
    | _ => cases e
  | repr => exact call_reprV hK gd hu
  | sum =>
    refine imp_call (L2.cr_sum hc) fun xs H Q hr => ?_
    obtain ⟨G, vs, ov, m, hv, e, q⟩ := hr
    obtain ⟨v, rfl⟩ := bi_one e ⟨by decide, by decide⟩
    obtain ⟨x, rfl, hp⟩ := one_of hv rfl
    cases v with
    | lst ys =>
      have e : (toInts ys).map (fun bs => OV.sh (.int bs.sum)) = some ov := e
      cases k : toInts ys with
      | none => rw [k] at e; cases e
      | some bs =>
        rw [k] at e; cases e
        obtain ⟨a, vs, rfl, h1, r⟩ := hp
        exact ⟨a, bs, rfl, .inl (.inl (by rw [h1, toInts_rep k r])), q.sh m rep_int⟩
    | frz ys =>
      have e : (toInts ys).map (fun bs => OV.sh (.int bs.sum)) = some ov := e
      cases k : toInts ys with
      | none => rw [k] at e; cases e
      | some bs =>
        rw [k] at e; cases e
        obtain ⟨a, vs, rfl, h1, r⟩ := hp
        exact ⟨a, bs, rfl, by rw [hK, ← toInts_rep k r]; exact m.seq h1, q.sh m rep_int⟩
    | _ => cases e
end
end PF
set_option Elab.async false
set_option linter.all false
set_option maxRecDepth 100000
/-! PF, part dg: defs whose callers show no container (no guard stands). -/
namespace PF
open PySem PySem.Spec PyProof.Rows
open L2 (V Hp HO PE PT PA VK XK Sp CXT TE TA PSs)
/-- a def's promise where no guard stands -/
structure FnG (Pr : Program) (w : World) (K : PySem.W.Frag) (mg : Str → Option Value) (base : Heap) (CX : CXT) (k : Nat) (f : Addr) (fd : FuncData) (ps : List Str) (sp : Sp) : Prop where
  len : ∀ vs H Q E, sp vs H Q E → vs.length = ps.length
  run : ∀ (A : Around) (up : List PySem.Env) (s : Shared) (H : Hp) (gv : Args) (us : List Value) (vs : List V) (Q : VK) (E : XK), A.guards = some [] → L2.Room k A → L2.Env0 Pr w K mg base A up s H → BindsTo s fd gv (ps.zip us) → L2.Vals vs us → sp vs H Q E →
    codeAny (model Pr w) A (.call (.ref f) gv) (L2.CR CX up Pr w H s Q E) s
section
variable {Pr : Program} {w : World} {K : PySem.W.Frag} {mg : Str → Option Value} {base : Heap} {CX : CXT} {j k : Nat} {f : Addr} {fd : FuncData} {ps N : List Str} {sp : Sp}
theorem FnG.mono (F : FnG Pr w K mg base CX j f fd ps sp) (h : j ≤ k) : FnG Pr w K mg base CX k f fd ps sp := ⟨F.len, fun A up s H gv us vs Q E hg hr => F.run A up s H gv us vs Q E hg (hr.mono h)⟩
theorem make_guards {A : Around} {C : Addr} {us : List Value} {kw : List (Str × Value)} (h : A.guards = some []) : (A.under (.builtin "type.__call__" ⟨.ref C :: us, kw⟩)).guards = some [] := by
  first
    | exact h
    | (simp [Around.under, Code.guards, Code.isGuard, pushGuards, guardIds, h])
    | (simp [Around.under, Code.guards, Code.isGuard, pushGuards, h])
/-- THE RULE for a def -/
theorem fnG_of {name qual : Str} {pr : Arguments} {body : List Stmt} {sc : Scope} {dV kV doc pm cdv ct oc : Value} {an od : Option Addr} {osl : Array (Option Value)} (lk : K.lookup f = some ⟨oc, od, .func (PySem.W.fnOf name qual pr body sc dV kV doc pm an cdv ct), osl⟩)
    (cdk : PySem.W.codeIn K cdv qual = true) (S : L2.FnScope N ps sc) (len : ∀ vs H Q E, sp vs H Q E → vs.length = ps.length)
    (hb0 : ∀ (A : Around) (up : List PySem.Env) (s : Shared) (H : Hp) (vs : List V) (Q : VK) (E : XK), A.guards = some [] → L2.Room k (A.deeper (envOfC qual sc s.heap.objs.size f cdv)) → sp vs H Q E →
      ∃ t, PSs (L2.cxOf CX Pr w K mg base N qual sc f cdv A up s H E) body t ∧ t { nx := fun _ H' => Q .non H', rt := Q } (L2.start N vs) H) :
    FnG Pr w K mg base CX (k + 1) f (PySem.W.fnOf name qual pr body sc dV kV doc pm an cdv ct) ps sp := by
  refine ⟨len, fun A up s H gv us vs Q E hg hr en bd rv wish => ?_⟩
  have n0 := len _ _ _ _ wish
  have keepB : ∀ b o, base.get? b = some o → s.heap.get? b = some o := fun b o z => (en.bs b o z).1
  have KX : K.In s.heap := en.mod.kin.keeps keepB
  have lim : s.heap.NoLimit := en.mod.nolimit.keeps keepB
  have kinds : ∀ y ∈ ps.zip us, sc.names.lookup y.1 = some .local ∨ (sc.names.lookup y.1 = some .cell ∧ ((cellsFrom (s.heap.objs.size + 1) sc.names []).lookup y.1).isSome = true) := fun ⟨a, b⟩ hy =>
    (S.par a (List.of_mem_zip hy).1).elim .inl fun z => .inr ⟨z, PySem.W.cellsFrom_some _ _ _ (.inl z)⟩
  refine codeAny_call_function hr.depth (KX _ _ lk) rfl S.co S.gen rfl (PySem.W.codeRec_of KX cdk) (bd _ _ _ _ (wpAny_newFunctionEnv_cells S.kind kinds fun env en2 s1 x => ?_))
  subst en2
  refine ⟨lim.keeps x.toInCall.keep, codeAny_func ?_⟩
  obtain ⟨t, ht, q0⟩ := hb0 A up s H vs Q E hg (hr.deeper _) wish
  have I0 : L2.Inv (L2.cxOf CX Pr w K mg base N qual sc f cdv A up s H E) [] (L2.start N vs) H s1 := L2.inv_start S hr.hd en n0 rv x
  refine wpAny_mono (ht.run [] s1 (L2.start N vs) H _ I0 q0) (fun fl s2 z => ?_) fun _ _ z => z
  cases fl with
  | ret u =>
    obtain ⟨v, σ', H', J, r, q⟩ := z
    exact ⟨v, H', J.os, J.bare, J.base, J.hok, r, q⟩
  | next =>
    obtain ⟨σ', H', J, q⟩ := z
    exact ⟨V.non, H', J.os, J.bare, J.base, J.hok, rfl, q⟩
  | brk => exact z.elim fun _ z => z.elim fun _ z => z.2.elim
  | cont => exact z.elim fun _ z => z.elim fun _ z => z.2.elim
theorem funG {x qual : Str} {pr : Arguments} {body : List Stmt} {sc : Scope} {dvs : List V} {kws : List (Str × V)} (F : L2.FunD K x qual pr body sc dvs kws f fd) (S : L2.FnScope N ps sc) (len : ∀ vs H Q E, sp vs H Q E → vs.length = ps.length)
    (hb0 : ∀ (cdv : Value) (A : Around) (up : List PySem.Env) (s : Shared) (H : Hp) (vs : List V) (Q : VK) (E : XK), A.guards = some [] → L2.Room k (A.deeper (envOfC qual sc s.heap.objs.size f cdv)) → sp vs H Q E →
      ∃ t, PSs (L2.cxOf CX Pr w K mg base N qual sc f cdv A up s H E) body t ∧ t { nx := fun _ H' => Q .non H', rt := Q } (L2.start N vs) H) : FnG Pr w K mg base CX (k + 1) f fd ps sp := by
  obtain ⟨oc, od, dV, kV, doc, pm, an, cdv, ct, osl, rfl, lk, cdk, _, _⟩ := F.ex
  exact fnG_of lk cdk S len (hb0 cdv)
end
section
variable {X : L2.Cx} {CX : CXT} {k : Nat} {f C : Addr} {fd : FuncData} {ps : List Str} {sp : Sp} {dvs : List V} {ds : List Value} {E : L2.St → XK} {x : Str} {p pos : Pos} {e : Expr} {es : List Expr} {t : TA} {ta : TE}
theorem runG {pins : List (Addr × Obj)} {σ : L2.St} {H : Hp} {s : Shared} {Q : VK} {us : List Value} {vs : List V} (F : FnG X.prog X.w X.K X.mg X.base CX k f fd ps sp) (hg : X.A.guards = some []) (hr : L2.Room k X.A) (hb : L2.Binds X.K fd ps ds) (hd : L2.Vals dvs ds) (hx : L2.PassesAt CX X σ (E σ))
    (I : L2.Inv X pins σ H s) (r : L2.Vals vs us) (h : sp (vs ++ dvs) H Q (E σ)) : wpAny (model X.prog X.w) X.A (call (.ref f) us) (L2.EP X pins σ Q) X.xe s := by
  have rr := r.append hd
  refine wpAny_call (codeAny_mono (F.run X.A X.stack s H ⟨us, []⟩ (us ++ ds) (vs ++ dvs) Q (E σ) hg hr I.env0 (hb s us I.kIn (rr.length.symm.trans (F.len _ _ _ _ h))) rr h) fun res s2 z => ?_)
  cases res with
  | error er => exact hx pins H s er s2 I z
  | ok fl => cases fl with
    | ret u => exact I.after z
    | _ => exact False.elim z
theorem callG (F : FnG X.prog X.w X.K X.mg X.base CX k f fd ps sp) (gd : X.A.guards = some []) (hr : L2.Room k X.A) (hg : L2.Gl X x) (hm : X.mg x = some (.ref f)) (hk : PySem.W.keepIn X.K (.ref f) = true) (hb : L2.Binds X.K fd ps ds) (hd : L2.Vals dvs ds) (hx : ∀ σ, L2.PassesAt CX X σ (E σ)) (ha : PA X (e :: es) t)
    (hdb : (x == ("__debug__" : Str)) = false) (he : starEach (e :: es) X.env = (false, eval e X.env) :: starEach es X.env) (hpl : (backTo pos (starEach es X.env)).any (·.1) = false) : PE X (.Call (.Name x p) (e :: es) [] pos) (L2.tCallSD sp dvs E t) :=
  ⟨fun pins s σ H Q I h => wpAny_Call_Name_kw (L2.ld_glob I hg hm (PySem.W.callWith_K (h₀ := X.base) I.ok.mod.kin hk (L2.thn (ha.run pos pins s σ H _ I h) fun us s1 ⟨vs, H1, I1, r, q⟩ => ⟨I1.kIn, runG F gd hr hb hd (hx σ) I1 r q⟩) he hpl) hdb)⟩
theorem callG0 (F : FnG X.prog X.w X.K X.mg X.base CX k f fd ps sp) (gd : X.A.guards = some []) (hr : L2.Room k X.A) (hg : L2.Gl X x) (hm : X.mg x = some (.ref f)) (hk : PySem.W.keepIn X.K (.ref f) = true) (hb : L2.Binds X.K fd ps []) (hx : ∀ σ, L2.PassesAt CX X σ (E σ))
    (hdb : (x == ("__debug__" : Str)) = false) : PE X (.Call (.Name x p) [] [] pos) (L2.tCallSD sp [] E L2.tNil) :=
  ⟨fun pins s σ H Q I h => wpAny_Call_Name_kw (L2.ld_glob I hg hm (PySem.W.callWith_K0 I.kIn hk (runG (us := []) F gd hr hb .nil (hx σ) I .nil h)) hdb)⟩
/-- x.f, a property -/
theorem propG {g : Addr} {fl : Str} {E : XK} (he : PE X e ta) (c : L2.Cls X.K C) (hp : L2.PropOf X.K C fl f g) (F : FnG X.prog X.w X.K X.mg X.base CX k g fd ps sp) (gd : X.A.guards = some []) (hr : L2.Room (k + 1) X.A) (hb : L2.Binds X.K fd ps ds) (hd : L2.Vals dvs ds) (hx : L2.Passes CX X.nox E)
    (hab : attributeBase e fl X.env (eval e X.env) = eval e X.env) : PE X (.Attribute e fl pos) (L2.tProp C sp dvs E ta) := by
  refine ⟨fun pins s σ H Q I h => L2.attr_of hab (L2.thn (he.run pins s σ H _ I h) fun u s1 ⟨x, H1, I0, rx, a, dx, fs, ex, ea, q⟩ => ?_)⟩
  subst ex
  obtain rfl : u = Value.ref a := rx
  obtain ⟨_, O, _⟩ := L2.ins_get I0.hok ea
  obtain ⟨od, J, _⟩ := O.look
  obtain ⟨_, hrec⟩ := hp.rec_
  have I1 := I0.tok (s1.toks + 1)
  have n1 : ([Value.ref a] ++ ds).length = ps.length := (congrArg Nat.succ hd.length.symm).trans (F.len _ _ _ _ q)
  have cs : (PySem.W.clsIn X.K C).isSome = true := by
    obtain ⟨cd, z, _⟩ := PySem.W.any_some c.hd
    rw [z] <;> rfl
  have pg := PySem.W.plainGet_of (c.get fl)
  refine PySem.W.get_bind I0.kIn J pg.1 (PySem.W.findObj_data cs hp.at_ hp.get hp.tak) pg.2 (wpAny_call (PySem.W.prop_get (s := { s1 with toks := s1.toks + 1 }) I0.kIn hrec (codeAny_mono (F.run X.A.in1 X.stack { s1 with toks := s1.toks + 1 } H1 ⟨[.ref a], []⟩ (.ref a :: ds) (.ref a :: dvs) Q E gd hr.in1 I1.env0.in1 (hb _ [.ref a] I1.kIn n1) (.cons rfl hd) q) fun res s2 z => ?_)))
  cases res with
  | error er => exact False.elim (hx pins σ H1 _ er s2 (I1.wish _) z)
  | ok fl => cases fl with
    | ret u =>
      obtain ⟨v, H', I3, rv, q3⟩ := I1.after z
      show wpAny _ _ (handedOut u) _ _ _
      rw [PySem.W.handedOut_of (L2.handed_of rv)]
      exact wpAny_pure ⟨v, H', I3, rv, q3⟩
    | _ => exact False.elim z
end
end PF
set_option Elab.async false
set_option linter.all false
set_option maxRecDepth 100000
set_option maxHeartbeats 4000000
/-! PF, part w: raising an exception class of the program's own, whose __init__ hands a text to super and stores its parameters. -/
namespace PySem
namespace XMK
open PySem.W PySem.Calls PyProof.Rows
section
open Builtin Builtin.ObjectAttr
variable {prog : Program} {w : World} {A : Around} {R : Result → Shared → Prop} {hp : Heap} {g : Array GenState} {d : Drawn} {t : Nat} {os : OsState} {K : Frag} {B : String} {bmB : List Value} {name : Str} {tk : Tok} {v : Value} {x C : Addr} {fv : Array Value} {cd : ClassData}
/-- the first store: the dict is made -/
theorem first_store (SF : StoreFacts B bmB "object.__setattr__" "object") (X : K.In hp) (hx : hp.get? x = some { cls := .ref C, data := .fields fv }) (ov : excOver K C bmB = true) (hcd : clsIn K C = some cd) (hh : cd.hasDict = true) (ht : takerIn K C name = some none)
    (hq : ∀ h' tk' dx, (∀ b o, b ≠ x → hp.get? b = some o → h'.get? b = some o) → hp.objs.size ≤ dx → dx ≠ x → h'.get? x = some { cls := .ref C, dict := some dx, data := .fields fv } →
      h'.Ns1 dx (fun y => if y = name then some v else none) → R (.ok (.ret .none)) ⟨h', g, d, tk', os⟩) :
    codeAny (model prog w) A (.call (.builtin "object.__setattr__") ⟨[.ref x, .str name tk, v], []⟩) R ⟨hp, g, d, t, os⟩ := by
  have I : InstAt hp x { cls := .ref C, data := .fields fv } C none := ⟨hx, rfl, rfl, trivial⟩
  have hxs : x ≠ hp.objs.size := Nat.ne_of_lt (Heap.lt_size hx)
  refine osa_openX SF X I ov ht fun b => ?_
  have hcls : Looks (model prog w) hp (classData C) cd := looks_clsIn X hcd
  obtain ⟨nm, bs, mro, ns, qn, hd, sn, sb, ab, col, del⟩ := cd
  dsimp only at hh
  subst hh
  show wpAny _ _ (storeInOwnDict (.ref x) (.ref C) (.str name tk) name v b) _ _ _
  unfold storeInOwnDict ownDictForStores
  repeat (first | with_reducible refine HandSPX.store_in_new ?_ ?_ | with_reducible refine wpAny_loadPart_at hx ?_ | with_reducible refine hcls.at ?_ | wp_step)
  · exact ⟨_, #[], _, (Heap.get?_update_ne _ _ _ _ (Ne.symm hxs)).trans (Heap.get?_push_at rfl rfl), rfl, fun e he => absurd he (by simp), fun _ => rfl⟩
  · intro h' tk' hn' hs
    have hx1 : (hp.push { cls := .type "dict", data := .dict #[] }).get? x = some { cls := .ref C, data := .fields fv } := Heap.get?_push_of_some _ hx
    refine hq h' tk' hp.objs.size (fun b o hb ho => ?_) (Nat.le_refl _) (Ne.symm hxs) ((hs.2 x hxs).trans (Heap.get?_update_self _ hx1 rfl)) hn'
    exact (hs.2 b (Nat.ne_of_lt (Heap.lt_size ho))).trans ((Heap.get?_update_ne _ _ _ _ hb).trans (Heap.get?_push_of_some _ ho))
/-- a further one -/
theorem next_store {dx : Addr} {m0 : Str → Option Value} {nl : List Str} (SF : StoreFacts B bmB "object.__setattr__" "object") (X : K.In hp) (hx : hp.get? x = some { cls := .ref C, dict := some dx, data := .fields fv }) (hns : hp.Ns1 dx m0) (hw : Within m0 nl) (hz : nl.length ≤ 1000)
    (ov : excOver K C bmB = true) (hcd : clsIn K C = some cd) (hh : cd.hasDict = true) (ht : takerIn K C name = some none)
    (hq : ∀ h' tk', (∀ b o, b ≠ dx → hp.get? b = some o → h'.get? b = some o) → h'.Ns1 dx (fun y => if y = name then some v else m0 y) → R (.ok (.ret .none)) ⟨h', g, d, tk', os⟩) :
    codeAny (model prog w) A (.call (.builtin "object.__setattr__") ⟨[.ref x, .str name tk, v], []⟩) R ⟨hp, g, d, t, os⟩ := by
  obtain ⟨oD, esD, epD, hoD, hdD, _⟩ := hns.count hw
  have I : InstAt hp x { cls := .ref C, dict := some dx, data := .fields fv } C (some oD) := ⟨hx, rfl, rfl, hoD⟩
  refine osa_openX SF X I ov ht fun b => ?_
  have hcls : Looks (model prog w) hp (classData C) cd := looks_clsIn X hcd
  obtain ⟨nm, bs, mro, ns, qn, hd, sn, sb, ab, col, del⟩ := cd
  dsimp only at hh
  subst hh
  show wpAny _ _ (storeInOwnDict (.ref x) (.ref C) (.str name tk) name v b) _ _ _
  unfold storeInOwnDict ownDictForStores
  repeat (first | with_reducible refine OEX.store_in_old hns hw hz ?_ | with_reducible refine wpAny_loadPart_at hx ?_ | with_reducible refine hcls.at ?_ | wp_step)
  intro h' tk' hn' hs
  exact hq h' tk' (fun b o hb ho => (hs.2 b hb).trans ho) hn'
end
end XMK
end PySem
set_option Elab.async false
set_option linter.all false
set_option maxRecDepth 100000
set_option maxHeartbeats 4000000
/-! PF, part w2: such a class's __init__ runs. -/
namespace PySem
namespace XMK
open PySem.W PySem.Calls PyProof.Rows
/-- self.f = f, for each parameter -/
inductive Stores : List Stmt → List Str → Prop
  | nil : Stores [] []
  | cons {f : Str} {r : List Stmt} {fs : List Str} {p1 p2 p3 p4 : Pos} (hd : (f == ("__debug__" : Str)) = false) (h : Stores r fs) : Stores (.Assign [.Attribute (.Name "self" p1) f p2] (.Name f p3) p4 :: r) (f :: fs)
/-- def __init__(self, f, ..): super().__init__('..'); self.f = f; .. -/
inductive InitBody : List Stmt → List Str → Prop
  | mk {msg : Str} {j : Nat} {p0 p1 p2 p3 p4 ap : Pos} {r : List Stmt} {fs : List Str} (hl : (ap.endLine == p3.line) = true) (h : Stores r fs) :
      InitBody (.Expr (.Call (.Attribute (.Call (.Name "super" p0) [] [] p1) "__init__" ap) [.Constant (.str msg) j p2] [] p3) p4 :: r) fs
/-- the def -/
structure InitFn (K : Frag) (P : Program) (C fI : Addr) (qual : Str) (fs : List Str) (body : List Stmt) (scope : Scope) : Prop where
  at_ : ∃ (oc : Value) (od : Option Addr) (name : Str) (params : Arguments) (dV kV doc pm : Value) (an : Option Addr) (ct : Value) (cda cc : Addr) (osl : Array (Option Value)) (ar : Arg),
    K.lookup fI = some ⟨oc, od, .func (ksFn name qual params body scope dV kV doc pm an (.ref cda) ct cc), osl⟩ ∧ codeIn K (.ref cda) qual = true ∧ (params.posonlyargs ++ params.args).head? = some ar ∧ ar.arg = "self" ∧
    (∀ us : List Value, us.length = fs.length + 1 → bindArgs (ksFn name qual params body scope dV kV doc pm an (.ref cda) ct cc) ⟨us, []⟩ = pure ((("self" : Str) :: fs).zip us)) ∧
    (∃ (ccl : Value) (cdd : Option Addr) (vs : Array Value) (ccs : Array (Option Value)) (file : Str) (tf : Tok), K.lookup cda = some ⟨ccl, cdd, .fields vs, ccs⟩ ∧ vs[2]? = some (.str file tf) ∧ ((P.main.file : Str) == file) = true) ∧
    ∃ (cl : Value) (cld : Option Addr) (csl : Array (Option Value)), K.lookup cc = some ⟨cl, cld, .cell (some (.ref C)), csl⟩
  body : InitBody body fs
  kind : scope.kind = .function
  co : scope.isCoroutine = false
  gen : scope.isGenerator = false
  cells : ∀ x ∈ scope.names, x.2 ≠ .cell
  sup : scope.names.lookup ("super" : Str) = some .globalImplicit
  cls : scope.names.lookup ("__class__" : Str) = some .free
  loc : ∀ x, x ∈ (("self" : Str) :: fs) → scope.names.lookup x = some .local
  nd : (("self" : Str) :: fs).Nodup
  top : (P.main.scope.names.lookup ("super" : Str)).isSome = false
/-- the class -/
structure XCls (K : Frag) (C fI : Addr) (B newId i : String) (bmB : List Value) (fs : List Str) : Prop where
  FB : ExcBaseFacts B newId i bmB
  KF : KxsFacts B i
  SF : StoreFacts B bmB "object.__setattr__" "object"
  ini : excInitIn K C bmB newId = true
  own : findIn K (.ref C) "__init__" = some (some (.ref fI))
  fn : isFn K (.ref fI) = true
  up : ks_superIn K C C "__init__" = some (some (.builtin i))
  sub : subIn K (.ref C) (.type B) = some true
  slf : mroIn K C (.ref C) = some true
  any_ : nsIn K cStatics "thirdparty.any" = some none
  sa : findIn K (.ref C) "__setattr__" = some (some (.builtin "object.__setattr__"))
  over : excOver K C bmB = true
  dict : hasDictIn K C = true
  take : ∀ f, f ∈ fs → takerIn K C f = some none
  glb : nsIn K mainGlobals "super" = some none
section
variable {prog : Program} {w : World} {A : Around} {E : Value → Shared → Prop} {R : Result → Shared → Prop} {hp h : Heap} {g : Array GenState} {d : Drawn} {t : Nat} {os : OsState} {K : Frag} {C fI L e : Addr} {m mg : Str → Option Value} {news : List (Addr × Obj)} {B newId i : String} {bmB : List Value} {fs : List Str} {env : Env}
/-- what stands behind the stores: the exception at e, its dict -/
def Made (hp h : Heap) (e C L : Addr) (kv : List (Str × Value)) : Prop := (∀ b o, hp.get? b = some o → h.get? b = some o) ∧ ∃ t1 dx : Addr, hp.objs.size ≤ dx ∧ dx ≠ e ∧ dx ≠ L ∧ h.get? e = some ({ cls := .ref C, dict := some dx, data := .fields #[.ref t1, .none, .none, .none, .bool false, .none] } : Obj) ∧ h.Ns1 dx (fun y => kv.lookup y)
theorem lookup_cons' (f g : Str) (v : Value) (kv : List (Str × Value)) : ((f, v) :: kv).lookup g = if g = f then some v else kv.lookup g := by
  by_cases h : g = f
  · subst h; simp [List.lookup]
  · rw [if_neg h]; simp [List.lookup, show (g == f) = false by simpa using h]
theorem within_kv : ∀ (kv : List (Str × Value)), Within (fun y => kv.lookup y) (kv.map (·.1)) := fun kv y hy => by
  induction kv with
  | nil => exact absurd rfl hy
  | cons p kv ih =>
    obtain ⟨f, v⟩ := p
    by_cases e : y = f
    · rw [e]; exact List.mem_cons_self ..
    · have hy : ((f, v) :: kv).lookup y ≠ none := hy
      rw [lookup_cons', if_neg e] at hy
      exact List.mem_cons_of_mem _ (ih hy)
theorem cls_dict (h : hasDictIn K C = true) : ∃ cd, clsIn K C = some cd ∧ cd.hasDict = true := any_some h
theorem ns_keep {h h' : Heap} {x : Addr} (hn : h.Ns L m) (ne : L ≠ x) (k : ∀ b o, b ≠ x → h.get? b = some o → h'.get? b = some o) : h'.Ns L m := by
  obtain ⟨o, es, ep, ho, r⟩ := hn
  exact ⟨o, es, ep, k _ _ ne ho, r⟩
/-- a name of the frame -/
theorem load_par {x : Str} {pos : Pos} {v : Value} {s : Shared} {Q : Value → Shared → Prop} (hk : env.scope.kind = .function) (hl : env.kindOf x = some .local) (hn : s.heap.Ns env.locals m) (hv : m x = some v) (hd : (x == ("__debug__" : Str)) = false) (q : Q v s) :
    wpAny (model prog w) A (eval (.Name x pos) env) Q E s := wpAny_Name (wpAny_loadName_local hk hl hn hv q) hd
/-- the further stores -/
theorem stores_run (X₀ : K.In hp) (XC : XCls K C fI B newId i bmB fs) (hk : env.scope.kind = .function) (hL : env.locals = L) (hloc : ∀ x, x ∈ (("self" : Str) :: fs) → env.kindOf x = some .local) (ne : L ≠ e) (he : hp.get? e = none) (hm : m "self" = some (.ref e)) :
    ∀ {r : List Stmt} {gs : List Str}, Stores r gs → (∀ x, x ∈ gs → x ∈ fs) → ∀ {kv : List (Str × Value)} {us : List Value} {h : Heap} {t : Nat}, (∀ x v, (x, v) ∈ gs.zip us → m x = some v) → us.length = gs.length → kv.length + gs.length ≤ 500 → h.Ns L m → Made hp h e C L kv →
      ∀ {Q : Flow → Shared → Prop}, (∀ h' t', Made hp h' e C L ((gs.zip us).reverse ++ kv) → Q .next ⟨h', g, d, t', os⟩) → wpAny (model prog w) A (execs r env) Q E ⟨h, g, d, t, os⟩ := by
  intro r gs hr
  induction hr with
  | nil =>
    intro _ kv us h t _ _ _ hn M Q hq
    refine wpAny_execs_nil ?_
    have z := hq h t
    simp only [List.zip_nil_left, List.reverse_nil, List.nil_append] at z
    exact z M
  | @cons f r gs p1 p2 p3 p4 hd hr ih =>
    intro sub kv us h t hz hl hlen hn M Q hq
    cases us with
    | nil => cases hl
    | cons u us =>
      obtain ⟨keep, t1, dx, hdx, ned, neL, hx, hns⟩ := M
      have mf : m f = some u := hz f u (by rw [List.zip_cons_cons]; exact List.mem_cons_self ..)
      have hf : f ∈ fs := sub f (List.mem_cons_self ..)
      obtain ⟨cd, hcd, hh⟩ := cls_dict XC.dict
      have XH : K.In h := X₀.keeps keep
      obtain ⟨oD, _, _, hoD, _, _⟩ := hns.count (within_kv kv)
      refine wpAny_execs_cons (plainObj_wpAny_Assign_Attribute (load_par (m := m) hk (hloc f (List.mem_cons_of_mem _ hf)) (by rw [hL]; exact hn) mf hd ?_) rfl)
      refine load_par (m := m) hk (hloc _ (List.mem_cons_self ..)) (by rw [hL]; exact hn) hm (by decide) ?_
      refine set_plain XH (ox := { cls := .ref C, dict := some dx, data := .fields #[.ref t1, .none, .none, .none, .bool false, .none] }) (od := some oD) ⟨hx, rfl, rfl, hoD⟩ XC.sa ?_
      refine next_store XC.SF XH hx hns (within_kv kv) (by rw [List.length_map]; simp only [List.length_cons] at hlen; omega) XC.over hcd hh (XC.take f hf) fun h' tk' k hn' => ?_
      refine ih (fun x hx => sub x (List.mem_cons_of_mem _ hx)) (kv := (f, u) :: kv) (us := us) (fun x v hx => hz x v (by rw [List.zip_cons_cons]; exact List.mem_cons_of_mem _ hx)) (by simpa using hl) (by simp only [List.length_cons] at hlen ⊢; omega) (ns_keep hn (Ne.symm neL) k) ⟨fun b o z => k b o (fun q => ?_) (keep b o z), t1, dx, hdx, ned, neL, k _ _ (Ne.symm ned) hx, ?_⟩ fun h2 t2 M2 => ?_
      · have := Heap.lt_size z
        rw [q] at this
        exact absurd this (Nat.not_lt.mpr hdx)
      · have e2 : (fun y => ((f, u) :: kv).lookup y) = fun y => if y = f then some u else kv.lookup y := funext fun y => lookup_cons' f y u kv
        rw [e2]; exact hn'
      · have z := hq h2 t2
        rw [List.zip_cons_cons, List.reverse_cons, List.append_assoc, List.singleton_append] at z
        exact z M2
end
end XMK
end PySem
set_option Elab.async false
set_option linter.all false
set_option maxRecDepth 100000
set_option maxHeartbeats 4000000
/-! PF, part w3: the whole of __init__. -/
namespace PySem
namespace XMK
open PySem.W PySem.Calls PyProof.Rows
/-- the form of a method call with few arguments -/
theorem mform {o : Expr} {m : Str} {apos pos : Pos} {args : List Expr} {env : Env} (hp : (backTo pos (starEach args env)).any (·.1) = false) (hn : args.length ≤ 20) (hl : (apos.endLine == pos.line) = true) :
    eval (.Call (.Attribute o m apos) args [] pos) env = (do
      let ov ← attributeBase o m env (eval o env)
      standAt apos.atName
      let (f, first) ← holding [ov] (getMethod ov m (do return (← importBound o env).getD true))
      callWith pos f first (backTo pos (starEach args env)) []) := by
  rw [arm_eval_Call]
  have hf : methodCallForm (args.length + ([] : List Keyword).length) (backTo pos (starEach args env)) (backToKw pos (keywordEach [] env)) = true := by
    have e1 : (backTo pos (starEach args env)).all (!·.1) = true := by
      rw [List.all_eq_true]
      intro x hx
      rw [List.any_eq_false] at hp
      simpa using hp x hx
    have e2 : backToKw pos (keywordEach [] env) = [] := rfl
    unfold methodCallForm
    rw [e1, e2]
    simp only [List.all_nil, Bool.and_self, Bool.true_and, List.isEmpty_nil, if_true, Nat.add_zero, List.length_nil]
    exact decide_eq_true (by omega)
  have hc : ∀ z, methodCallPos true o env apos z = (if (!true || apos.endLine == z.line) = true then pure z else methodCallPos true o env apos z) := fun z => by
    by_cases q : (!true || apos.endLine == z.line) = true
    · rw [if_pos q]; unfold methodCallPos; rw [if_pos q]
    · rw [if_neg q]
  have h : ∀ ov, methodCall o m apos pos env ov (args.length + ([] : List Keyword).length) (backTo pos (starEach args env)) (backToKw pos (keywordEach [] env)) = (do
      let (f, first) ← holding [ov] (getMethod ov m (do return (← importBound o env).getD true))
      callWith pos f first (backTo pos (starEach args env)) []) := by
    intro ov
    unfold methodCall
    rw [hf, hc, hl]
    simp only [Bool.not_true, Bool.false_or, if_true, pure_bind]
    rfl
  simp only [h]
theorem lookup_mem : ∀ {l : List (Str × Value)} {x : Str} {v : Value}, (l.map (·.1)).Nodup → (x, v) ∈ l → l.lookup x = some v
  | [], _, _, _, h => by cases h
  | (y, u) :: l, x, v, nd, h => by
    rw [List.map_cons, List.nodup_cons] at nd
    rcases List.mem_cons.mp h with h | h
    · cases h; simp [List.lookup]
    · have ne : x ≠ y := fun z => nd.1 (by rw [← z]; exact List.mem_map.mpr ⟨(x, v), h, rfl⟩)
      rw [lookup_cons', if_neg ne]
      exact lookup_mem nd.2 h
theorem rev_lookup {ks : List Str} {us : List Value} {x : Str} {v : Value} (nd : ks.Nodup) (h : (x, v) ∈ ks.zip us) (hl : us.length = ks.length) : (ks.zip us).reverse.lookup x = some v := by
  refine lookup_mem ?_ (List.mem_reverse.mpr h)
  rw [List.map_reverse, List.map_fst_zip (by omega)]
  exact (List.reverse_perm ks).nodup_iff.mpr nd
theorem boot_super : bootBuiltins "super" = some (.type "super") := by kernel_rfl
theorem inter_no {env : Env} (h : env.scope.kind = .function) : interactive env = false := by
  unfold interactive
  rw [h]; rfl
section
variable {prog : Program} {w : World} {A : Around} {E : Value → Shared → Prop} {R : Result → Shared → Prop} {hp h1 : Heap} {g : Array GenState} {d : Drawn} {t : Nat} {os : OsState} {K : Frag} {C fI e t0 : Addr} {mg : Str → Option Value} {B newId i qual : Str} {us : List Value}
theorem init_run {B newId i : String} {bmB : List Value} {fs : List Str} {body : List Stmt} {scope : Scope} (X₀ : K.In hp) (G : hp.Ns mainGlobals mg) (Bt : ∃ mb, hp.Ns builtinsNs mb ∧ ∀ x : Str, x ≠ "__name__" → mb x = bootBuiltins x) (NL : hp.NoLimit) (XC : XCls K C fI B newId i bmB fs) (IF : InitFn K prog C fI qual fs body scope)
    (room : A.depth < recursionLimit) (size : hp.objs.size ≤ h1.objs.size) (kk : ∀ b o, hp.get? b = some o → h1.get? b = some o) (he : h1.get? e = some (HandSPX.excO C t0)) (hpe : hp.get? e = none) (hl : us.length = fs.length) (hne : fs ≠ []) (few : fs.length ≤ 100)
    (hq : ∀ h' t' L, Made hp h' e C L (fs.zip us).reverse → R (.ok (.ret .none)) ⟨h', g, d, t', os⟩) : codeAny (model prog w) A (.call (.ref fI) ⟨.ref e :: us, []⟩) R ⟨h1, g, d, t, os⟩ := by
  obtain ⟨oc, od, name, params, dV, kV, doc, pm, an, ct, cda, cc, osl, ar, lk, hcd, hhd, har, hb, ⟨ccl, cdd, vs, ccs, file, tf, lcode, hvs, hfile⟩, cl, cld, csl, lcell⟩ := IF.at_
  have X1 : K.In h1 := X₀.keeps kk
  have len : (Value.ref e :: us).length = fs.length + 1 := by rw [List.length_cons, hl]
  refine ks_codeAny_call_defAt (fd := ksFn name qual params body scope dV kV doc pm an (.ref cda) ct cc) (body := body) (binds := (("self" : Str) :: fs).zip (.ref e :: us)) room (X1 _ _ lk) rfl (NL.keeps kk) (codeRec_of X1 hcd) rfl
    (BindsTo.of_eq (hb _ len)) IF.cells (fun x hx => IF.loc x.1 (List.of_mem_zip hx).1) (fun h2 hns hk => ?_) IF.co IF.gen IF.kind
  have body_ := IF.body
  have X2 : K.In h2 := X1.keeps hk
  have kk2 : ∀ b o, hp.get? b = some o → h2.get? b = some o := fun b o z => hk b o (kk b o z)
  have he2 : h2.get? e = some (HandSPX.excO C t0) := hk _ _ he
  have nL : h1.objs.size ≠ e := fun z => by
    have := Heap.lt_size he
    rw [← z] at this
    exact absurd this (Nat.lt_irrefl _)
  have mself : ((("self" : Str) :: fs).zip (Value.ref e :: us)).reverse.lookup ("self" : Str) = some (.ref e) := rev_lookup IF.nd (by rw [List.zip_cons_cons]; exact List.mem_cons_self ..) (by rw [List.length_cons, List.length_cons, hl])
  have mpar : ∀ x v, (x, v) ∈ fs.zip us → ((("self" : Str) :: fs).zip (Value.ref e :: us)).reverse.lookup x = some v := fun x v hx => rev_lookup IF.nd (by rw [List.zip_cons_cons]; exact List.mem_cons_of_mem _ hx) (by rw [List.length_cons, List.length_cons, hl])
  obtain ⟨cd, hcl, hdict⟩ := cls_dict XC.dict
  obtain ⟨oD, hD1, hD2⟩ : ∃ oD, h2.get? C = some oD ∧ oD.data = .cls cd := by
    unfold clsIn at hcl
    split at hcl
    · rename_i c d' cd' sl ho
      cases hcl
      exact ⟨_, X2 _ _ ho, rfl⟩
    · cases hcl
  have neC : e ≠ C := fun z => by
    rw [z] at he2
    rw [he2] at hD1
    cases hD1
    cases hD2
  obtain ⟨mb, hmb, hboot⟩ := Bt
  cases body_ with
  | @mk msg j p0 p1 p2 p3 p4 ap r _ hline hst =>
    refine ks_wpAt_execs_cons (ks_wpAt_Expr_any (ks_wpAt_MethodCall ?_ (mform rfl (by simp) hline)) (inter_no IF.kind))
    refine ks_wpAt_super_base (env := ksEnv qual scope h1.objs.size fI (.ref cda) cc) IF.sup IF.cls (by decide) rfl (X2 _ _ lk) rfl hhd rfl (X2 _ _ lcode) rfl hvs hfile IF.top ?_
    refine ks_loadName_global IF.kind IF.sup (loadGlobal_builtin (env := ksEnv qual scope h1.objs.size fI (.ref cda) cc) (G.keeps kk2) (mg_none_of X₀ G XC.glb) (hmb.keeps kk2) ((hboot _ (by decide +kernel)).trans boot_super) ⟨rfl, ?_⟩)
    refine wpAny_loadName_free IF.kind IF.cls rfl ⟨_, X2 _ _ lcell, rfl⟩ ?_
    refine wpAny_loadName_local IF.kind (by rw [har]; exact IF.loc _ (List.mem_cons_self ..)) hns (by rw [har]; exact mself) ?_
    refine ks_wpAny_isType_cls hD1 hD2 ⟨rfl, ?_⟩
    refine ks_wpAny_call_super hD1 hD2 he2 rfl (fun c z => by cases z) (looks_mroIn X2 XC.slf) (fun h3 so3 k3 => ?_)
    have X3 : K.In h3 := X2.keeps k3
    have he3 : h3.get? e = some (HandSPX.excO C t0) := k3 _ _ he2
    have up := XC.up
    unfold ks_superIn at up
    rw [hcl, Option.bind_some] at up
    have I3 : InstAt h3 e (HandSPX.excO C t0) C none := ⟨he3, rfl, rfl, trivial⟩
    refine kxs_getMethod XC.KF so3 (looks_opaque X3 XC.any_) (l₀ := cd.mro) (fun A Q E s k q => wpAny_bind ((looks_clsIn X3 hcl) A _ E s k (wpAny_pure q))) rfl X3 up (I3.type.andThen (looks_subIn X3 XC.sub)) neC (by decide) ?_
    have lt3 : ∀ {b : Addr} {o : Obj}, h3.get? b = some o → b ≠ h3.objs.size := fun {b o} z => Nat.ne_of_lt (Heap.lt_size z)
    have hL3 : ∃ oL, h3.get? h1.objs.size = some oL := by
      obtain ⟨o, _, _, ho, _⟩ := hns
      exact ⟨o, k3 _ _ ho⟩
    have k4 : ∀ b o, h3.get? b = some o → (h3.push (kxs_mw i e)).get? b = some o := fun b o z => Heap.get?_push_of_some _ z
    have kh4 : ∀ b o, hp.get? b = some o → (h3.push (kxs_mw i e)).get? b = some o := fun b o z => k4 b o (k3 b o (kk2 b o z))
    have hu : hp.get? h3.objs.size = none := by
      cases z : hp.get? h3.objs.size with
      | none => rfl
      | some o => exact absurd rfl (lt3 (k3 _ _ (kk2 _ _ z)))
    have N4 : News hp h1.objs.size (h3.push (kxs_mw i e)) [(h3.objs.size, kxs_mw i e), (e, excObj C t0 none .none)] := fun p hp' => by
      rcases List.mem_cons.mp hp' with rfl | hp'
      · obtain ⟨oL, hL⟩ := hL3
        exact ⟨Heap.get?_push_at rfl rfl, Ne.symm (lt3 hL), hu⟩
      · rw [List.mem_singleton] at hp'
        subst hp'
        exact ⟨k4 _ _ he3, Ne.symm nL, hpe⟩
    have F4 : Fr hp h1.objs.size (h3.push (kxs_mw i e)) (fun x => ((("self" : Str) :: fs).zip (Value.ref e :: us)).reverse.lookup x) := by
      obtain ⟨o, es, ep, ho, r⟩ := hns
      exact ⟨⟨o, es, ep, k4 _ _ (k3 _ _ ho), r⟩, kh4, size⟩
    have U4 : UpdF e (excObj C t0 none .none) [(h3.objs.size, kxs_mw i e), (e, excObj C t0 none .none)] (fun o' => (h3.objs.size, kxs_mw i e) :: (e, o') :: []) := .tail (Ne.symm (lt3 he3)) (.head fun p hp' => by cases hp')
    refine kxs_callWith1 N4 (List.mem_cons_self ..) (PyProof.Rows.spliced_more (wpAny_Constant_str (PyProof.Rows.spliced_none ⟨kxs_at N4 (List.mem_cons_self ..), ?_⟩)))
    refine kxs_call (s := ⟨h3.push (kxs_mw i e), _, _, _, _⟩) F4 X₀ N4 XC.FB XC.ini (List.mem_cons_self ..) U4 (by rw [List.length_singleton, sizeLine_eq]; decide) fun t1 h5 F5 N5 _ => ?_
    have he5 : h5.get? e = some ({ cls := .ref C, data := .fields #[.ref t1, .none, .none, .none, .bool false, .none] } : Obj) := (N5 (e, excObj C t1 none .none) (by simp)).1
    have kind : (ksEnv qual scope h1.objs.size fI (.ref cda) cc).scope.kind = .function := IF.kind
    have loc : ∀ x, x ∈ (("self" : Str) :: fs) → (ksEnv qual scope h1.objs.size fI (.ref cda) cc).kindOf x = some .local := IF.loc
    cases hst with
    | nil => exact absurd rfl hne
    | @cons f r2 gs q1 q2 q3 q4 hd hst =>
      cases us with
      | nil => cases hl
      | cons u us =>
        have X5 : K.In h5 := X₀.keeps F5.keep
        refine wpAt_of_wpAny (wpAny_execs_cons (plainObj_wpAny_Assign_Attribute (load_par kind (loc f (List.mem_cons_of_mem _ (List.mem_cons_self ..))) F5.ns (mpar f u (by rw [List.zip_cons_cons]; exact List.mem_cons_self ..)) hd ?_) rfl))
        refine load_par kind (loc _ (List.mem_cons_self ..)) F5.ns mself (by decide) ?_
        refine set_plain X5 (ox := { cls := .ref C, data := .fields #[.ref t1, .none, .none, .none, .bool false, .none] }) (od := none) ⟨he5, rfl, rfl, trivial⟩ XC.sa ?_
        refine first_store XC.SF X5 he5 XC.over hcl hdict (XC.take f (List.mem_cons_self ..)) fun h6 tk6 dx k6 dn dne hx6 hn6 => ?_
        have hL5 : ∃ oL, h5.get? h1.objs.size = some oL := by
          obtain ⟨o, _, _, ho, _⟩ := F5.ns
          exact ⟨o, ho⟩
        have dL : h1.objs.size < dx := by
          obtain ⟨oL, hL⟩ := hL5
          exact Nat.lt_of_lt_of_le (Heap.lt_size hL) dn
        refine stores_run X₀ XC kind rfl loc nL hpe mself hst (fun x hx => List.mem_cons_of_mem _ hx) (kv := [(f, u)]) (us := us) (fun x v hx => mpar x v (by rw [List.zip_cons_cons]; exact List.mem_cons_of_mem _ hx)) (by simpa using hl) (by simp only [List.length_cons, List.length_nil] at few ⊢; omega) (ns_keep F5.ns nL k6) ⟨fun b o z => k6 b o (fun q => ?_) (F5.keep b o z), t1, dx, ?_, dne, Ne.symm (Nat.ne_of_lt dL), hx6, ?_⟩ fun h7 t7 M7 => ?_
        · rw [q, hpe] at z; cases z
        · exact Nat.le_of_lt (Nat.lt_of_le_of_lt size dL)
        · have e2 : (fun y => ([(f, u)] : List (Str × Value)).lookup y) = fun y => if y = f then some u else none := funext fun y => lookup_cons' f y u []
          rw [e2]; exact hn6
        · have z := hq h7 t7 h1.objs.size
          rw [List.zip_cons_cons, List.reverse_cons] at z
          exact z M7
end
end XMK
end PySem
set_option Elab.async false
set_option linter.all false
set_option maxRecDepth 100000
set_option maxHeartbeats 4000000
/-! PF, part w4: C(e, ..), raised. -/
namespace PF
open PySem PySem.Spec PyProof.Rows
open L2 (V Hp HO upd upd_same upd_ne Same SqL SqT WX PE PT PA PS PSs Ends)
/-- an own exception class, its __init__'s parameters fs -/
structure XOk (K : PySem.W.Frag) (prog : Program) (C : Addr) (fs : List Str) : Prop where
  x : ∃ fI B newId i bmB qual body scope, PySem.XMK.XCls K C fI B newId i bmB fs ∧ PySem.XMK.InitFn K prog C fI qual fs body scope
  exC : PySem.W.subIn K (.ref C) (.type "BaseException") = some true
  tyC : PySem.W.typeIn K (.ref C) = some (.type "type")
  kC : PySem.W.keepIn K (.ref C) = true
  nd : fs.Nodup
  ne : fs ≠ []
  few : fs.length ≤ 100
  xf : L2.XfC K C
  no : ∀ f, f ∈ fs → PySem.W.findIn K (.ref C) f = some none
theorem relO_zip : ∀ {fs : List Str} {vs : List V} {us : List Value}, L2.Vals vs us → vs.length = fs.length → ∀ f, L2.RelO ((fs.zip vs).lookup f) ((fs.zip us).lookup f)
  | [], _, _, _, _, _ => trivial
  | _ :: _, [], _, _, h, _ => by cases h
  | f :: fs, v :: vs, _, r, h, g => by
    cases r with
    | @cons _ u _ us r1 r2 =>
      rw [List.zip_cons_cons, List.zip_cons_cons, L2.lookup_put, XMK.lookup_cons']
      by_cases e : g = f
      · rw [if_pos e, if_pos e]; exact r1
      · rw [if_neg e, if_neg e]
        exact relO_zip r2 (by simpa using h) g
theorem lookup_none : ∀ {l : List (Str × Value)} {x : Str}, x ∉ l.map (·.1) → l.lookup x = none
  | [], _, _ => rfl
  | (y, u) :: l, x, h => by
    rw [XMK.lookup_cons', if_neg (fun e => h (by rw [e]; exact List.mem_cons_self ..))]
    exact lookup_none fun z => h (List.mem_cons_of_mem _ z)
theorem lookup_rev {l : List (Str × Value)} (nd : (l.map (·.1)).Nodup) (x : Str) : l.reverse.lookup x = l.lookup x := by
  have nd' : (l.reverse.map (·.1)).Nodup := by
    rw [List.map_reverse]; exact (List.reverse_perm _).nodup_iff.mpr nd
  by_cases h : x ∈ l.map (·.1)
  · obtain ⟨⟨y, v⟩, hp, rfl⟩ := List.mem_map.mp h
    rw [XMK.lookup_mem nd hp, XMK.lookup_mem nd' (List.mem_reverse.mpr hp)]
  · rw [lookup_none h, lookup_none (by rw [List.map_reverse]; exact fun z => h (List.mem_reverse.mp z))]
section
variable {X : L2.Cx} {x : Str} {C : Addr} {fs : List Str} {k : Nat} {e : Expr} {es : List Expr} {ta : L2.TA} {p pos : Pos}
def tMkX (C : Addr) (fs : List Str) (ta : L2.TA) : L2.St → Hp → L2.XK → Prop := fun σ H Q => ta σ H fun vs H1 => vs.length = fs.length ∧ ∀ d, H1 d = none → Q (.ref C) (some d) (upd H1 d (.xd (fs.zip vs)))
theorem pmk_own (T : XOk X.K X.prog C fs) (hr : L2.Room (k + 1) X.A) (hg : L2.Gl X x) (hm : X.mg x = some (.ref C)) (ha : PA X (e :: es) ta)
    (hdb : (x == ("__debug__" : Str)) = false) (he : starEach (e :: es) X.env = (false, eval e X.env) :: starEach es X.env) (hpl : (backTo pos (starEach es X.env)).any (·.1) = false) :
    L2.PMk X (.Call (.Name x p) (e :: es) [] pos) (tMkX C fs ta) := by
  intro pins s σ H Q I h
  obtain ⟨fI, B, newId, i, bmB, qual, body, scope, XC, IF⟩ := T.x
  refine wpAny_Call_Name_kw (L2.ld_glob I hg hm ?_ hdb)
  refine PySem.W.callWith_K (h₀ := X.base) I.ok.mod.kin T.kC (L2.thn (ha.run pos pins s σ H _ I h) fun us s1 ⟨vs, H1, I1, r1, hz, q1⟩ => ⟨I1.kIn, ?_⟩) he hpl
  show wpAny _ _ (call (.ref C) us) _ _ _
  have hl : us.length = fs.length := (L2.Vals.length r1).symm.trans hz
  have nl := I1.nolimit
  obtain ⟨hp, g, dr, tk, os⟩ := s1
  obtain ⟨nm, N', qn, bs, bm, hdct, sn, sub, ab, col, dd, k0, k1, k2, k3, k5, hC, hT⟩ := PySem.W.excInit_of I1.kIn XC.ini
  have hget : ((hp.push (PySem.W.kdv_tup us)).push (PySem.HandSPX.excO C hp.objs.size)).get? (hp.objs.size + 1) = some (PySem.HandSPX.excO C hp.objs.size) := by heap_get
  have kk : ∀ b o, hp.get? b = some o → ((hp.push (PySem.W.kdv_tup us)).push (PySem.HandSPX.excO C hp.objs.size)).get? b = some o := fun b o e => Heap.get?_push_of_some _ (Heap.get?_push_of_some _ e)
  have hpe : hp.get? (hp.objs.size + 1) = none := by
    cases z : hp.get? (hp.objs.size + 1) with
    | none => rfl
    | some o => exact absurd (Heap.lt_size z) (Nat.not_lt.mpr (Nat.le_succ _))
  have keepB : ∀ b o, X.base.get? b = some o → hp.get? b = some o := I1.bk
  have G : hp.Ns mainGlobals X.mg := I1.ok.mod.glob.keeps keepB
  have Bt : ∃ mb, hp.Ns builtinsNs mb ∧ ∀ x : Str, x ≠ "__name__" → mb x = bootBuiltins x := by
    obtain ⟨mb, h1, h2⟩ := I1.ok.mod.blt
    exact ⟨mb, h1.keeps keepB, h2⟩
  have few := T.few
  refine wpAny_call (PySem.HandSPX.call_own XC.FB hT hC (PySem.W.looks_findIn I1.kIn XC.own) (fun self => PySem.W.bind_fn I1.kIn self ?_) (by rw [sizeLine_eq]; omega) ?_)
  · have hf := XC.fn
    unfold PySem.W.isFn at hf
    unfold PySem.W.typeIn
    exact beq_iff_eq.mp hf
  refine PySem.XMK.init_run (hp := hp) (h1 := (hp.push (PySem.W.kdv_tup us)).push (PySem.HandSPX.excO C hp.objs.size)) (e := hp.objs.size + 1) (t0 := hp.objs.size) I1.kIn G Bt nl XC IF ?_ (by rw [Heap.size_push, Heap.size_push]; omega) kk hget hpe hl T.ne few fun h' t' L M => ⟨rfl, ?_⟩
  · have := hr.dp
    show X.A.depth + 1 < recursionLimit
    omega
  obtain ⟨old, t1, dx, hdx, dne, _, hx, hns⟩ := M
  obtain ⟨G', g1, g2⟩ := L2.restrict h' fun b => decide (b ≠ hp.objs.size + 1)
  have gk : ∀ b, b ≠ hp.objs.size + 1 → G'.get? b = h'.get? b := fun b hb => g1 b (decide_eq_true hb)
  have ge : G'.get? (hp.objs.size + 1) = none := g2 _ (by simp)
  have old' : ∀ b o, hp.get? b = some o → G'.get? b = some o := fun b o q => (gk b (Nat.ne_of_lt (Nat.lt_succ_of_lt (Heap.lt_size q)))).trans (old b o q)
  have nd' : ((fs.zip us).map (·.1)).Nodup := by rw [List.map_fst_zip (by omega)]; exact T.nd
  have ob : L2.ObjOk X.prog X.w (upd H1 dx (.xd (fs.zip vs))) G' dx (.xd (fs.zip vs)) :=
    ⟨_, hns.at (fun o q => (gk dx dne).trans q), fun f => by
      show L2.RelO _ ((fs.zip us).reverse.lookup f)
      rw [lookup_rev nd']; exact relO_zip r1 hz f⟩
  have J : L2.Inv X pins σ (upd H1 dx (.xd (fs.zip vs))) ⟨G', g, dr, t', os⟩ := I1.laid (t' := t') old' hdx ob
  refine ⟨hp.objs.size + 1, _, _, ⟨G', g, dr, t', os⟩, _, .ref C, some dx, rfl, J, fun b o q => ?_, ge, hx, ⟨rfl, rfl⟩, rfl, rfl, ?_, rfl, I1.bare, L2.raises_own T.exC T.tyC, q1 dx (I1.hok.fresh hdx)⟩
  · by_cases hb : b = hp.objs.size + 1
    · have q' : G'.get? b = some o := q
      rw [hb, ge] at q'; cases q'
    · exact (gk b hb).symm.trans q
  · rw [upd_ne (Ne.symm dne)]
    exact I1.hok.fresh (by show hp.objs.size ≤ _; omega)
end
end PF
set_option Elab.async false
set_option linter.all false
set_option maxRecDepth 100000
/-! PF, part e: the context; what the checker says of a text. -/
namespace PF
open PySem PySem.Spec PyProof.Rows
open L2 (V Hp HO upd upd_same upd_ne Same SqL SqT WX PE PT PA PC OpR CallR IxR SlR MtR TruR VK)

/-- what a def's call promises -/
def SpF (g : Gm) (Γ : Env) (f : Nat) : L2.Sp := fun vs H Q E => ∃ G ovs F, RS g G H ovs (vs.map some) F ∧ Post g (fun cls d _ H' => E cls d H') (vs.map some) G H (Own F) (RlO g) Q (Γ.rho f ovs)
def tyW (g : Gm) : Ty → Value
  | .int => .type "int" | .bool => .type "bool" | .str => .type "str" | .list => .type "list" | .tuple => .type "tuple" | .dict => .type "dict" | .cls c => .ref (g.cl c)
def typV (g : Gm) : PV → Value
  | .non => .type "NoneType" | .bl _ => .type "bool" | .int _ => .type "int" | .str _ => .type "str" | .tup _ => .type "tuple" | .lst _ => .type "list" | .frz _ => .type "list" | .ins c _ => .ref (g.cl c) | .dct _ _ => .type "dict"
/-- its class is known -/
def knV (g : Gm) : PV → Prop
  | .ins c _ => g.kn c
  | _ => True
/-- the fields' names of a class: nothing else has them -/
structure FldOk (K : PySem.W.Frag) (g : Gm) (c : Nat) : Prop where
  nd : (g.fnm c).Nodup
  no : ∀ f, f ∈ g.fnm c → L2.NoAttr K (g.cl c) f
  few : (g.fnm c).length ≤ 900
/-- C.m is a staticmethod: its record at p, its def at f -/
structure SMet (K : PySem.W.Frag) (C : Addr) (mc : Value) (m : Str) (p f : Addr) : Prop where
  at_ : PySem.W.findCls K (.ref C) mc m = some (.get (.builtin "staticmethod.__get__") (.ref p) .none (.ref C))
  rc : ∃ rest, PySem.W.recIn K p "staticmethod" = some (.ref f :: rest)
  kp : PySem.W.keepIn K (.ref f) = true
/-- how the def f is had as m of the class c -/
def MthOk (K : PySem.W.Frag) (g : Gm) (f c : Nat) (m : Str) : MK → Prop
  | .meth => L2.Cls K (g.cl c) ∧ L2.Meth K (g.cl c) m (g.fa f) ∧ m ∉ g.fnm c
  | .prop => L2.Cls K (g.cl c) ∧ ∃ p, L2.PropOf K (g.cl c) m p (g.fa f)
  | .init => g.kn c ∧ L2.Mk K (g.cl c) (g.fa f)
  | .kmeth => ∃ p mc, ClX.CRead K (g.cl c) mc ∧ ClX.CMet K (g.cl c) mc m p (g.fa f)
  | .stat => ∃ p mc, ClX.CRead K (g.cl c) mc ∧ SMet K (g.cl c) mc m p (g.fa f)
/-- a call of the def f, the last n of its parameters filled by its defaults -/
def CallOk (g : Gm) (Γ : Env) (k f n : Nat) (X : L2.Cx) : Prop := ∃ fd ps ds dvs, L2.Binds X.K fd ps ds ∧ L2.Vals dvs ds ∧ (∀ G, Reps g G (lastN n (Γ.dfl f)) dvs) ∧ FnG X.prog X.w X.K X.mg X.base (L2.CX X.prog X.w) k (g.fa f) fd ps (SpF g Γ f)
structure Cxt (g : Gm) (gn : GN) (Γ : Env) (N : List Tx) (k : Nat) (sc : Scope) (W : WX) (X : L2.Cx) : Prop where
  hK : X.K = g.K
  hN : X.N = N.map mkS
  nd : X.N.Nodup
  hsc : X.env.scope = sc
  calm : X.calm = true
  takes : L2.Takes X W
  room : L2.Room k X.A
  gd : X.A.guards = some []
  glb : ∀ i t v, gn.glb i = some t → Γ.glb i = some v → ∃ u x, X.mg (mkS t) = some u ∧ L2.RelV x u ∧ ∀ G, Rep g G v x
  fn : ∀ f t, gn.fn f = some t → ∃ fa fd ps, X.mg (mkS t) = some (.ref fa) ∧ PySem.W.keepIn X.K (.ref fa) = true ∧ L2.Binds X.K fd ps [] ∧ FnG X.prog X.w X.K X.mg X.base (L2.CX X.prog X.w) k fa fd ps (SpF g Γ f)
  cls : ∀ c t, gn.cls c = some t → X.mg (mkS t) = some (.ref (g.cl c)) ∧ ∀ v, knV g v → PySem.W.kitOne X.K (typV g v) (.ref (g.cl c)) = some (isTy (.cls c) v)
  ins : ∀ c t, g.kn c → (∀ H a dx fs, H a = some (.ins (g.cl c) dx fs) → L2.TyX X.K H (.ref a) (.ref (g.cl c))) ∧ (t ≠ Ty.cls c → (∀ c', t ≠ .cls c') → PySem.W.kitOne X.K (.ref (g.cl c)) (tyW g t) = some false)
  mgB : ∀ b, X.mg (biS b) = none
  mgT : ∀ t n, tyS t = some n → X.mg n = none
  mgR : X.mg "range" = none ∧ X.mg "enumerate" = none ∧ X.mg "zip" = none ∧ X.mg "isinstance" = none
  room2 : L2.Room (k + 2) X.A
  fld : ∀ c i t, gn.fld c i = some t → L2.Cls X.K (g.cl c) ∧ (g.fnm c)[i]? = some (mkS t) ∧ FldOk X.K g c
  mth : ∀ f c t m, gn.mth f = some (c, t, m) → MthOk X.K g f c (mkS t) m
  dfl : ∀ f n, gn.dfl f n = true → CallOk g Γ k f n X
  exc : ∀ c t, gn.exc c = some t → X.mg (mkS t) = some (.ref (g.xcl c))
  xok : ∀ c i t, gn.xfl c i = some t → XOk X.K X.prog (g.xcl c) (g.xfn c) ∧ ∀ j, (gn.xfl c j).map mkS = (g.xfn c)[j]?
  sub : ∀ c c' b, Γ.sub c c' = some b → PySem.W.exmOne X.K (.ref (g.xcl c)) (.ref (g.xcl c')) = some b

section
variable {g : Gm} {gn : GN} {Γ : Env} {N : List Tx} {k : Nat} {sc : Scope} {W : WX} {X : L2.Cx} {x : Str} {e : Expr}
theorem isNm_ok {i : Nat} (h : isNm N i x = true) : (N.map mkS)[i]? = some x := by
  unfold isNm at h
  rw [List.getElem?_map]
  cases q : N[i]? with
  | none => rw [q] at h; cases h
  | some t => rw [q] at h; rw [Option.map_some, of_decide_eq_true h]
theorem isO_ok {o : Option Tx} (h : isO o x = true) : ∃ t, o = some t ∧ mkS t = x := by
  unfold isO at h
  cases q : o with
  | none => rw [q] at h; cases h
  | some t => rw [q] at h; exact ⟨t, rfl, of_decide_eq_true h⟩
theorem noDbg_ok (h : noDbg x = true) : (x == ("__debug__" : Str)) = false ∧ (x == ("__classdict__" : Str)) = false := by
  unfold noDbg at h
  simpa using h
theorem visB_ok (h : visB sc x = true) : L2.Vis sc x := by
  unfold visB at h
  split at h
  · exact .inl (by assumption)
  · exact .inr (.inl (by assumption))
  · exact .inr (.inr (by assumption))
  · cases h
theorem locB_ok {f : Str → Bool} (h : locB sc f x = true) : L2.Loc sc x ∧ (f x = true ∨ sc.names.lookup x = some .local) := by
  unfold locB at h
  split at h
  · exact ⟨.inl (by assumption), .inr (by assumption)⟩
  · exact ⟨.inr (by assumption), .inl h⟩
  · cases h
theorem glB_ok (C : Cxt g gn Γ N k sc W X) (h : glB sc x = true) : L2.Gl X x ∧ (x == ("__debug__" : Str)) = false := by
  unfold glB at h
  rw [Bool.and_eq_true] at h
  refine ⟨?_, (noDbg_ok h.2).1⟩
  show X.env.scope.names.lookup x = some .globalImplicit
  rw [C.hsc]; exact of_decide_eq_true h.1

/-! shapes -/
theorem ff {p : Prop} (h : false = true) : p := absurd h Bool.false_ne_true
theorem chk_int {i : Int} (h : chk gn N sc (.int i) e = true) : ∃ n p, e = .Constant (.int i) n p := by
  cases e <;> first | (exact ff h) | skip
  rename_i c n p
  cases c <;> first | (exact ff h) | skip
  rename_i j
  exact ⟨n, p, by rw [of_decide_eq_true (show decide (i = j) = true from h)]⟩
theorem chk_bl {i : Bool} (h : chk gn N sc (.bl i) e = true) : ∃ n p, e = .Constant (.bool i) n p := by
  cases e <;> first | (exact ff h) | skip
  rename_i c n p
  cases c <;> first | (exact ff h) | skip
  rename_i j
  exact ⟨n, p, by rw [beq_iff_eq.mp (show (i == j) = true from h)]⟩
theorem chk_non (h : chk gn N sc .non e = true) : ∃ n p, e = .Constant .none n p := by
  cases e <;> first | (exact ff h) | skip
  rename_i c n p
  cases c <;> first | (exact ff h) | skip
  exact ⟨n, p, rfl⟩
theorem chk_str {t : Tx} (h : chk gn N sc (.str t) e = true) : ∃ n p, e = .Constant (.str (mkS t)) n p := by
  cases e <;> first | (exact ff h) | skip
  rename_i c n p
  cases c <;> first | (exact ff h) | skip
  rename_i j
  exact ⟨n, p, by rw [of_decide_eq_true (show decide (mkS t = j) = true from h)]⟩
theorem chk_var {i : Nat} (h : chk gn N sc (.var i) e = true) : ∃ x p, e = .Name x p ∧ isNm N i x = true ∧ visB sc x = true ∧ noDbg x = true := by
  cases e <;> first | (exact ff h) | skip
  rename_i x p
  have h : (isNm N i x && visB sc x && noDbg x) = true := h
  simp only [Bool.and_eq_true] at h
  exact ⟨x, p, rfl, h.1.1, h.1.2, h.2⟩
theorem chk_glb {i : Nat} (h : chk gn N sc (.glb i) e = true) : ∃ x p, e = .Name x p ∧ isO (gn.glb i) x = true ∧ glB sc x = true := by
  cases e <;> first | (exact ff h) | skip
  rename_i x p
  have h : (isO (gn.glb i) x && glB sc x) = true := h
  simp only [Bool.and_eq_true] at h
  exact ⟨x, p, rfl, h.1, h.2⟩
theorem chk_tup {es : Exs} (h : chk gn N sc (.tup es) e = true) : ∃ l n p, e = .Tuple l n p ∧ l.length ≤ 1000 ∧ chks gn N sc es l = true := by
  cases e <;> first | (exact ff h) | skip
  rename_i l n p
  have h : (decide (l.length ≤ 1000) && chks gn N sc es l) = true := h
  simp only [Bool.and_eq_true, decide_eq_true_eq] at h
  exact ⟨l, n, p, rfl, h.1, h.2⟩
theorem chk_lst {es : Exs} (h : chk gn N sc (.lst es) e = true) : ∃ l p, e = .List l p ∧ l.length ≤ 1000 ∧ chks gn N sc es l = true := by
  cases e <;> first | (exact ff h) | skip
  rename_i l p
  have h : (decide (l.length ≤ 1000) && chks gn N sc es l) = true := h
  simp only [Bool.and_eq_true, decide_eq_true_eq] at h
  exact ⟨l, p, rfl, h.1, h.2⟩
theorem chk_bin {o : BOp} {a b : Ex} (h : chk gn N sc (.bin o a b) e = true) : ∃ l op r p, e = .BinOp l op r p ∧ opB o op = true ∧ chk gn N sc a l = true ∧ chk gn N sc b r = true := by
  cases e <;> first | (exact ff h) | skip
  rename_i l op r p
  have h : (opB o op && chk gn N sc a l && chk gn N sc b r) = true := h
  simp only [Bool.and_eq_true] at h
  exact ⟨l, op, r, p, rfl, h.1.1, h.1.2, h.2⟩
theorem chk_neg {a : Ex} (h : chk gn N sc (.neg a) e = true) : ∃ l p, e = .UnaryOp .USub l p ∧ chk gn N sc a l = true := by
  cases e <;> first | (exact ff h) | skip
  rename_i op l p
  cases op <;> first | (exact ff h) | skip
  exact ⟨l, p, rfl, h⟩
theorem chk_not {a : Ex} (h : chk gn N sc (.not a) e = true) : ∃ l p, e = .UnaryOp .Not l p ∧ chk gn N sc a l = true := by
  cases e <;> first | (exact ff h) | skip
  rename_i op l p
  cases op <;> first | (exact ff h) | skip
  exact ⟨l, p, rfl, h⟩
theorem chk_cmp {o : COp} {a b : Ex} (h : chk gn N sc (.cmp o a b) e = true) : ∃ l op r p, e = .Compare l [op] [r] p ∧ opC o op = true ∧ chk gn N sc a l = true ∧ chk gn N sc b r = true := by
  cases e <;> first | (exact ff h) | skip
  rename_i l ops rs p
  rcases ops with _ | ⟨op, _ | ⟨op2, ops⟩⟩ <;> first | (exact ff h) | skip
  rcases rs with _ | ⟨r, _ | ⟨r2, rs⟩⟩ <;> first | (exact ff h) | skip
  have h : (opC o op && chk gn N sc a l && chk gn N sc b r) = true := h
  simp only [Bool.and_eq_true] at h
  exact ⟨l, op, r, p, rfl, h.1.1, h.1.2, h.2⟩
theorem chk_chn {o q : COp} {a b c : Ex} (h : chk gn N sc (.chn o q a b c) e = true) : ∃ l op op2 m r p, e = .Compare l [op, op2] [m, r] p ∧ opC o op = true ∧ opC q op2 = true ∧ chk gn N sc a l = true ∧ chk gn N sc b m = true ∧ chk gn N sc c r = true := by
  cases e <;> first | (exact ff h) | skip
  rename_i l ops rs p
  rcases ops with _ | ⟨op, _ | ⟨op2, _ | ⟨op3, ops⟩⟩⟩ <;> first | (exact ff h) | skip
  rcases rs with _ | ⟨m, _ | ⟨r, _ | ⟨r3, rs⟩⟩⟩ <;> first | (exact ff h) | skip
  have h : (opC o op && opC q op2 && chk gn N sc a l && chk gn N sc b m && chk gn N sc c r) = true := h
  simp only [Bool.and_eq_true] at h
  exact ⟨l, op, op2, m, r, p, rfl, h.1.1.1.1, h.1.1.1.2, h.1.1.2, h.1.2, h.2⟩
theorem chk_isN {ng : Bool} {a : Ex} (h : chk gn N sc (.isN ng a) e = true) : ∃ l n p2 p, e = .Compare l [if ng then .IsNot else .Is] [.Constant .none n p2] p ∧ chk gn N sc a l = true := by
  cases e <;> first | (exact ff h) | skip
  rename_i l ops rs p
  rcases ops with _ | ⟨op, _ | ⟨op2, ops⟩⟩ <;> first | (exact ff h) | skip
  rcases rs with _ | ⟨r, _ | ⟨r2, rs⟩⟩ <;> first | (exact ff h) | (cases r <;> first | exact ff h | (rename_i c _ _; cases c <;> exact ff h)) | skip
  cases r <;> first | (exact ff h) | skip
  rename_i c n p2
  cases c <;> first | (exact ff h) | skip
  have h : (decide (op = if ng then .IsNot else .Is) && chk gn N sc a l) = true := h
  simp only [Bool.and_eq_true, decide_eq_true_eq] at h
  exact ⟨l, n, p2, p, by rw [h.1], h.2⟩
theorem chk_inn {ng : Bool} {a b : Ex} (h : chk gn N sc (.inn ng a b) e = true) : ∃ l r p, e = .Compare l [if ng then .NotIn else .In] [r] p ∧ behindInMarks (if ng then .NotIn else .In) r = false ∧ chk gn N sc a l = true ∧ chk gn N sc b r = true := by
  cases e <;> first | (exact ff h) | skip
  rename_i l ops rs p
  rcases ops with _ | ⟨op, _ | ⟨op2, ops⟩⟩ <;> first | (exact ff h) | skip
  rcases rs with _ | ⟨r, _ | ⟨r2, rs⟩⟩ <;> first | (exact ff h) | skip
  have h : (decide (op = if ng then .NotIn else .In) && !behindInMarks op r && chk gn N sc a l && chk gn N sc b r) = true := h
  simp only [Bool.and_eq_true, decide_eq_true_eq, Bool.not_eq_true'] at h
  obtain ⟨⟨⟨h1, h2⟩, h3⟩, h4⟩ := h
  subst h1
  exact ⟨l, r, p, rfl, h2, h3, h4⟩
theorem chk_and {a b : Ex} (h : chk gn N sc (.and a b) e = true) : ∃ x y r p, e = .BoolOp .And (x :: y :: r) p ∧ chk gn N sc a x = true ∧ ((r = [] ∧ chk gn N sc b y = true) ∨ (r ≠ [] ∧ chk gn N sc b (.BoolOp .And (y :: r) p) = true)) := by
  cases e <;> first | (exact ff h) | skip
  rename_i op l p
  cases op <;> first | (exact ff h) | skip
  rcases l with _ | ⟨x, _ | ⟨y, r⟩⟩ <;> first | (exact ff h) | skip
  cases r with
  | nil =>
    have h : (chk gn N sc a x && chk gn N sc b y) = true := h
    simp only [Bool.and_eq_true] at h
    exact ⟨x, y, [], p, rfl, h.1, .inl ⟨rfl, h.2⟩⟩
  | cons z r =>
    have h : (chk gn N sc a x && chk gn N sc b (.BoolOp .And (y :: z :: r) p)) = true := h
    simp only [Bool.and_eq_true] at h
    exact ⟨x, y, z :: r, p, rfl, h.1, .inr ⟨List.cons_ne_nil _ _, h.2⟩⟩
theorem chk_or {a b : Ex} (h : chk gn N sc (.or a b) e = true) : ∃ x y r p, e = .BoolOp .Or (x :: y :: r) p ∧ chk gn N sc a x = true ∧ ((r = [] ∧ chk gn N sc b y = true) ∨ (r ≠ [] ∧ chk gn N sc b (.BoolOp .Or (y :: r) p) = true)) := by
  cases e <;> first | (exact ff h) | skip
  rename_i op l p
  cases op <;> first | (exact ff h) | skip
  rcases l with _ | ⟨x, _ | ⟨y, r⟩⟩ <;> first | (exact ff h) | skip
  cases r with
  | nil =>
    have h : (chk gn N sc a x && chk gn N sc b y) = true := h
    simp only [Bool.and_eq_true] at h
    exact ⟨x, y, [], p, rfl, h.1, .inl ⟨rfl, h.2⟩⟩
  | cons z r =>
    have h : (chk gn N sc a x && chk gn N sc b (.BoolOp .Or (y :: z :: r) p)) = true := h
    simp only [Bool.and_eq_true] at h
    exact ⟨x, y, z :: r, p, rfl, h.1, .inr ⟨List.cons_ne_nil _ _, h.2⟩⟩
theorem chk_ite {a b c : Ex} (h : chk gn N sc (.ite c a b) e = true) : ∃ t x y p, e = .IfExp t x y p ∧ chk gn N sc c t = true ∧ chk gn N sc a x = true ∧ chk gn N sc b y = true := by
  cases e <;> first | (exact ff h) | skip
  rename_i t x y p
  have h : (chk gn N sc c t && chk gn N sc a x && chk gn N sc b y) = true := h
  simp only [Bool.and_eq_true] at h
  exact ⟨t, x, y, p, rfl, h.1.1, h.1.2, h.2⟩
theorem chk_ix {a b : Ex} (h : chk gn N sc (.ix a b) e = true) : ∃ x i p, e = .Subscript x i p ∧ chk gn N sc a x = true ∧ chk gn N sc b i = true := by
  cases e <;> first | (exact ff h) | skip
  rename_i x i p
  have h : ((slB i).isNone && chk gn N sc a x && chk gn N sc b i) = true := h
  simp only [Bool.and_eq_true] at h
  exact ⟨x, i, p, rfl, h.1.2, h.2⟩
theorem chk_sl {a : Ex} {lo hi : Opt} (h : chk gn N sc (.sl a lo hi) e = true) : ∃ x l u p2 p, e = .Subscript x (.Slice l u none p2) p ∧ chk gn N sc a x = true ∧ chkO gn N sc lo l = true ∧ chkO gn N sc hi u = true := by
  cases e <;> first | (exact ff h) | skip
  rename_i x i p
  cases i <;> first | (exact ff h) | skip
  rename_i l u st p2
  cases st <;> first | (exact ff h) | skip
  have h : (chk gn N sc a x && chkO gn N sc lo l && chkO gn N sc hi u) = true := h
  simp only [Bool.and_eq_true] at h
  exact ⟨x, l, u, p2, p, rfl, h.1.1, h.1.2, h.2⟩
theorem chk_rev {a : Ex} (h : chk gn N sc (.rev a) e = true) : ∃ x n p1 p2 p3 p, e = .Subscript x (.Slice none none (some (.UnaryOp .USub (.Constant (.int 1) n p1) p2)) p3) p ∧ chk gn N sc a x = true := by
  cases e <;> first | (exact ff h) | skip
  rename_i x i p
  cases i <;> first | (exact ff h) | skip
  rename_i l u st p3
  cases l <;> first | (exact ff h) | skip
  cases u <;> first | (exact ff h) | skip
  cases st <;> first | (exact ff h) | skip
  rename_i st
  cases st <;> first | (exact ff h) | skip
  rename_i op c p2
  cases op <;> first | (exact ff h) | skip
  cases c <;> first | (exact ff h) | skip
  rename_i c n p1
  cases c <;> first | (exact ff h) | skip
  rename_i i
  have h : (decide (i = 1) && chk gn N sc a x) = true := h
  simp only [Bool.and_eq_true, decide_eq_true_eq] at h
  exact ⟨x, n, p1, p2, p3, p, by rw [h.1], h.2⟩
theorem chk_call {f : Nat} {es : Exs} (h : chk gn N sc (.call f es) e = true) : ∃ x p1 l p, e = .Call (.Name x p1) l [] p ∧ isO (gn.fn f) x = true ∧ glB sc x = true ∧ chks gn N sc es l = true := by
  cases e <;> first | (exact ff h) | skip
  rename_i fn l ks p
  cases fn <;> first | (exact ff h) | skip
  rename_i x p1
  cases ks <;> first | (exact ff h) | skip
  have h : (isO (gn.fn f) x && glB sc x && chks gn N sc es l) = true := h
  simp only [Bool.and_eq_true] at h
  exact ⟨x, p1, l, p, rfl, h.1.1, h.1.2, h.2⟩
theorem chk_bi {b : Bi} {es : Exs} (h : chk gn N sc (.bi b es) e = true) : ∃ p1 l p, e = .Call (.Name (biS b) p1) l [] p ∧ glB sc (biS b) = true ∧ chks gn N sc es l = true := by
  cases e <;> first | (exact ff h) | skip
  rename_i fn l ks p
  cases fn <;> first | (exact ff h) | skip
  rename_i x p1
  cases ks <;> first | (exact ff h) | skip
  have h : (decide (biS b = x) && glB sc x && chks gn N sc es l) = true := h
  simp only [Bool.and_eq_true, decide_eq_true_eq] at h
  obtain ⟨⟨h1, h2⟩, h3⟩ := h
  subst h1
  exact ⟨p1, l, p, rfl, h2, h3⟩
theorem chk_isi {a : Ex} {ts : List Ty} {tp : Bool} (h : chk gn N sc (.isi a ts tp) e = true) : ∃ p1 y t p, e = .Call (.Name "isinstance" p1) [y, t] [] p ∧ glB sc "isinstance" = true ∧ chk gn N sc a y = true ∧
    ((∃ ty, tp = false ∧ ts = [ty] ∧ chkTy gn sc ty t = true) ∨ (∃ l n p2, tp = true ∧ t = .Tuple l n p2 ∧ l.length ≤ 1000 ∧ chkTys gn sc ts l = true)) := by
  cases e <;> first | (exact ff h) | skip
  rename_i fn l ks p
  cases fn <;> first | (exact ff h) | skip
  rename_i x p1
  rcases l with _ | ⟨y, _ | ⟨t, _ | ⟨u, l⟩⟩⟩ <;> first | (exact ff h) | skip
  cases ks <;> first | (exact ff h) | skip
  have h : (decide (x = ("isinstance" : Str)) && glB sc x && chk gn N sc a y && chkIs gn sc tp ts t) = true := h
  simp only [Bool.and_eq_true, decide_eq_true_eq] at h
  obtain ⟨⟨⟨h1, h2⟩, h3⟩, h4⟩ := h
  subst h1
  refine ⟨p1, y, t, p, rfl, h2, h3, ?_⟩
  unfold chkIs at h4
  split at h4
  · exact .inl ⟨_, rfl, rfl, h4⟩
  · simp only [Bool.and_eq_true, decide_eq_true_eq] at h4
    exact .inr ⟨_, _, _, rfl, rfl, h4.1, h4.2⟩
  · cases h4
theorem chk_comp {elt : Ex} {tg : Tg} {src : Src} {own : List Nat} (h : chk gn N sc (.comp elt tg src own) e = true) : ∃ x t it scope p, e = .ListComp x [⟨t, it, [], 0⟩] scope p ∧ blkB N sc scope own = true ∧ chk gn N (L2.relS scope sc) elt x = true ∧ chkT N (L2.relS scope sc) (fncOf scope) tg t = true ∧ chkS gn N sc src it t = true ∧ (∀ i, i ∈ tg.slots → i ∈ own) := by
  cases e <;> first | (exact ff h) | skip
  rename_i x gs scope p
  rcases gs with _ | ⟨⟨t, it, ifs, z⟩, _ | ⟨u, gs⟩⟩ <;> first | (exact ff h) | (cases ifs <;> exact ff h) | skip
  cases ifs <;> first | (exact ff h) | skip
  have h : (decide (z = 0) && blkB N sc scope own && chk gn N (L2.relS scope sc) elt x && chkT N (L2.relS scope sc) (fncOf scope) tg t && chkS gn N sc src it t && tg.slots.all own.contains) = true := h
  simp only [Bool.and_eq_true, decide_eq_true_eq] at h
  obtain ⟨⟨⟨⟨⟨h1, h2⟩, h3⟩, h4⟩, h5⟩, h6⟩ := h
  subst h1
  exact ⟨x, t, it, scope, p, rfl, h2, h3, h4, h5, fun i hi => by simpa using List.all_eq_true.mp h6 i hi⟩
theorem chk_compIf {elt c : Ex} {tg : Tg} {src : Src} {own : List Nat} (h : chk gn N sc (.compIf elt tg src c own) e = true) : ∃ x t it c' scope p, e = .ListComp x [⟨t, it, [c'], 0⟩] scope p ∧ blkB N sc scope own = true ∧ chk gn N (L2.relS scope sc) elt x = true ∧ chkT N (L2.relS scope sc) (fncOf scope) tg t = true ∧ chkS gn N sc src it t = true ∧ chk gn N (L2.relS scope sc) c c' = true ∧ (∀ i, i ∈ tg.slots → i ∈ own) := by
  cases e <;> first | (exact ff h) | skip
  rename_i x gs scope p
  rcases gs with _ | ⟨⟨t, it, ifs, z⟩, _ | ⟨u, gs⟩⟩ <;> first | (exact ff h) | (rcases ifs with _ | ⟨c', _ | ⟨c2, ifs⟩⟩ <;> exact ff h) | skip
  rcases ifs with _ | ⟨c', _ | ⟨c2, ifs⟩⟩ <;> first | (exact ff h) | skip
  have h : (decide (z = 0) && blkB N sc scope own && chk gn N (L2.relS scope sc) elt x && chkT N (L2.relS scope sc) (fncOf scope) tg t && chkS gn N sc src it t && chk gn N (L2.relS scope sc) c c' && tg.slots.all own.contains) = true := h
  simp only [Bool.and_eq_true, decide_eq_true_eq] at h
  obtain ⟨⟨⟨⟨⟨⟨h1, h2⟩, h3⟩, h4⟩, h5⟩, h6⟩, h7⟩ := h
  subst h1
  exact ⟨x, t, it, c', scope, p, rfl, h2, h3, h4, h5, h6, fun i hi => by simpa using List.all_eq_true.mp h7 i hi⟩

theorem chkS_rng {a : Ex} {t : Expr} (h : chkS gn N sc (.rng a) e t = true) : ∃ p1 y p, e = .Call (.Name "range" p1) [y] [] p ∧ glB sc "range" = true ∧ chk gn N sc a y = true := by
  cases e <;> first | (exact ff h) | skip
  rename_i fn l ks p
  cases fn <;> first | (exact ff h) | skip
  rename_i x p1
  rcases l with _ | ⟨y, _ | ⟨z, l⟩⟩ <;> first | (exact ff h) | skip
  cases ks <;> first | (exact ff h) | skip
  have h : (decide (x = ("range" : Str)) && glB sc x && chk gn N sc a y) = true := h
  simp only [Bool.and_eq_true, decide_eq_true_eq] at h
  obtain ⟨⟨h1, h2⟩, h3⟩ := h
  subst h1
  exact ⟨p1, y, p, rfl, h2, h3⟩
theorem chkS_rng2 {a b : Ex} {t : Expr} (h : chkS gn N sc (.rng2 a b) e t = true) : ∃ p1 y z p, e = .Call (.Name "range" p1) [y, z] [] p ∧ glB sc "range" = true ∧ chk gn N sc a y = true ∧ chk gn N sc b z = true := by
  cases e <;> first | (exact ff h) | skip
  rename_i fn l ks p
  cases fn <;> first | (exact ff h) | skip
  rename_i x p1
  rcases l with _ | ⟨y, _ | ⟨z, _ | ⟨u, l⟩⟩⟩ <;> first | (exact ff h) | skip
  cases ks <;> first | (exact ff h) | skip
  have h : (decide (x = ("range" : Str)) && glB sc x && chk gn N sc a y && chk gn N sc b z) = true := h
  simp only [Bool.and_eq_true, decide_eq_true_eq] at h
  obtain ⟨⟨⟨h1, h2⟩, h3⟩, h4⟩ := h
  subst h1
  exact ⟨p1, y, z, p, rfl, h2, h3, h4⟩
theorem isTup_ok {t : Expr} (h : isTup t = true) : ∃ l n p, t = .Tuple l n p := by
  cases t <;> first | exact ff h | exact ⟨_, _, _, rfl⟩
theorem chkS_enum {a : Ex} {t : Expr} (h : chkS gn N sc (.enum a) e t = true) : ∃ p1 y p, e = .Call (.Name "enumerate" p1) [y] [] p ∧ glB sc "enumerate" = true ∧ chk gn N sc a y = true ∧ isTup t = true := by
  cases e <;> first | (exact ff h) | skip
  rename_i fn l ks p
  cases fn <;> first | (exact ff h) | skip
  rename_i x p1
  rcases l with _ | ⟨y, _ | ⟨z, l⟩⟩ <;> first | (exact ff h) | skip
  cases ks <;> first | (exact ff h) | skip
  have h : (decide (x = ("enumerate" : Str)) && glB sc x && chk gn N sc a y && isTup t) = true := h
  simp only [Bool.and_eq_true, decide_eq_true_eq] at h
  obtain ⟨⟨⟨h1, h2⟩, h3⟩, h4⟩ := h
  subst h1
  exact ⟨p1, y, p, rfl, h2, h3, h4⟩
theorem chkS_zip {a b : Ex} {t : Expr} (h : chkS gn N sc (.zip a b) e t = true) : ∃ p1 y z p, e = .Call (.Name "zip" p1) [y, z] [] p ∧ glB sc "zip" = true ∧ chk gn N sc a y = true ∧ chk gn N sc b z = true ∧ isTup t = true := by
  cases e <;> first | (exact ff h) | skip
  rename_i fn l ks p
  cases fn <;> first | (exact ff h) | skip
  rename_i x p1
  rcases l with _ | ⟨y, _ | ⟨z, _ | ⟨u, l⟩⟩⟩ <;> first | (exact ff h) | skip
  cases ks <;> first | (exact ff h) | skip
  have h : (decide (x = ("zip" : Str)) && glB sc x && chk gn N sc a y && chk gn N sc b z && isTup t) = true := h
  simp only [Bool.and_eq_true, decide_eq_true_eq] at h
  obtain ⟨⟨⟨⟨h1, h2⟩, h3⟩, h4⟩, h5⟩ := h
  subst h1
  exact ⟨p1, y, z, p, rfl, h2, h3, h4, h5⟩

/-- never a star, a slice -/
theorem chk_plain {m : Ex} (h : chk gn N sc m e = true) : (∀ a b, e ≠ .Starred a b) ∧ (∀ a b c d, e ≠ .Slice a b c d) := by
  constructor
  · intro a b q
    subst q
    cases m <;> first | exact ff h | (rename_i o es; cases o <;> exact ff h)
  · intro a b c d q
    subst q
    cases m <;> first | exact ff h | (rename_i o es; cases o <;> exact ff h)
theorem star_one {es : List Expr} {env : PySem.Env} (h : ∀ a b, e ≠ .Starred a b) : starEach (e :: es) env = (false, eval e env) :: starEach es env := by
  cases e <;> first | rfl | exact absurd rfl (h _ _)
theorem plainIx (h : ∀ a b c d, e ≠ .Slice a b c d) : L2.PlainIx e := by
  intro o i
  cases e <;> first | rfl | exact absurd rfl (h _ _ _ _)
theorem chks_plain : ∀ {es : Exs} {l : List Expr}, chks gn N sc es l = true → ∀ (pos : Pos) (env : PySem.Env), (backTo pos (starEach l env)).any (·.1) = false
  | .nil, l, h, _, _ => by
    cases l with
    | nil => rfl
    | cons a r => exact ff h
  | .cons a es, l, h, pos, env => by
    cases l with
    | nil => exact ff h
    | cons x r =>
      have h : (chk gn N sc a x && chks gn N sc es r) = true := h
      rw [Bool.and_eq_true] at h
      rw [star_one (chk_plain h.1).1]
      show (false || (backTo pos (starEach r env)).any (·.1)) = false
      rw [chks_plain h.2]; rfl
end
end PF
set_option Elab.async false
set_option linter.all false
set_option maxRecDepth 100000
/-! PF, part f: readings of expressions. -/
namespace PF
open PySem PySem.Spec PyProof.Rows
open L2 (V Hp HO upd upd_same upd_ne Same SqL SqT WX PE PT PA PC OpR CallR IxR SlR MtR TruR VK)
section
variable {g : Gm} {W : WX} {σ : L2.St} {G H : Hp} {α β : Type} {Rl : RL α β} {s : S} {F : Nat → Fp} {X : L2.Cx} {e : Expr}
theorem PE_imp {t t' : L2.TE} (h : PE X e t) (k : ∀ σ H Q, t' σ H Q → t σ H Q) : PE X e t' := ⟨fun pins s σ H Q I q => h.run pins s σ H Q I (k _ _ _ q)⟩
theorem PT_imp {t t' : L2.TT} (h : PT X e t) (k : ∀ σ H Q, t' σ H Q → t σ H Q) : PT X e t' := ⟨fun pins s σ H Q I q => h.run pins s σ H Q I (k _ _ _ q)⟩
theorem PA_imp {es : List Expr} {t t' : L2.TA} (h : PA X es t) (k : ∀ σ H Q, t' σ H Q → t σ H Q) : PA X es t' := ⟨fun pos pins s σ H Q I q => h.run pos pins s σ H Q I (k _ _ _ q)⟩
theorem PE_frz {f : S → Res OV} (h : PE X e (T g W (RlO g) f)) : PE X e (T g W (RlV g) fun s => frzR (f s)) :=
  PE_imp h fun _ _ _ ⟨G, s, F, R, p⟩ => ⟨G, s, F, R, Post.frz p⟩

/-- a slot that is read, where it stands -/
theorem RS.look {i : Nat} {v : PV} (R : RS g G H s σ F) (e : getV s i = some v) : i < s.length ∧ ∃ x, σ[i]? = some (some x) ∧ PkR g G H v x := by
  have hi : i < s.length := by
    refine Classical.byContradiction fun h => ?_
    unfold getV at e
    rw [getO_out (Nat.le_of_not_lt h)] at e
    cases e
  exact ⟨hi, (R.at_ i hi).view R.sub e⟩
/-- .. and is frozen -/
theorem RS.thaw {i : Nat} {v : PV} (R : RS g G H s σ F) (e : getV s i = some v) : ∃ G' F' x, Stp G H (Own F) G' H (Own F') ∧ RS g G' H (if (getO s i).own then s.set i (.sh v) else s) σ F' ∧ σ[i]? = some (some x) ∧ Rep g G' v x := by
  obtain ⟨hi, x, ex, _⟩ := R.look e
  cases ho : (getO s i).own with
  | true =>
    have R2 := R.freeze hi e
    obtain ⟨y, ey, r⟩ := (R.at_ i hi).frozen (fun a p => R.fr i a p) e
    refine ⟨_, _, y, (Stp.frz (A := Own F) (fun a p => ⟨i, p⟩) fun a p => R.fr i a p).sub fun a q => ⟨q.put, fun p => ?_⟩, R2, ey, r⟩
    rcases own_updF q with z | ⟨j, hj, z⟩
    · exact z
    · exact hj (R.dis j i a z p)
  | false =>
    have hr : Rep g G v x := by
      have h := R.at_ i hi
      unfold getV at e
      cases q : getO s i with
      | emp => rw [q] at e; cases e
      | sh w =>
        rw [q] at e h
        cases e
        obtain ⟨_, y, ey, r⟩ := h
        rw [ex] at ey; cases ey
        exact r
      | lst xs => rw [q] at ho; cases ho
      | obj c fs => rw [q] at ho; cases ho
      | kls c => rw [q] at e; cases e
    exact ⟨G, F, x, Stp.refl, R, ex, hr⟩

def tPk (g : Gm) (W : WX) (a : Ex) (fa : S → Res OV) : L2.TE := match a with
  | .var i => L2.tVar i
  | _ => T g W (RlV g) fun s => frzR (fa s)
theorem Post.unpeek {r : Res PV} {Q : VK} {A : Fp} (h : Post g W σ G H A (RlP g) Q r) : Post g W σ G H A (RlV g) Q r := by
  cases r with
  | ok v s => exact fun G' H' F' P x t R d q => h G' H' F' P x t R d ⟨q.1, PkR.of R.sub q.2⟩
  | exc e s => exact h
  | bad => exact h
theorem var_or (a : Ex) : (∃ i, a = .var i) ∨ ((∀ fa, tPk g W a fa = T g W (RlV g) fun s => frzR (fa s)) ∧ (∀ fa s, peek a fa s = frzR (fa s)) ∧ (∀ {α : Type} fa (k : S → Res α) s, late a fa k s = (frzR (fa s)).bind fun x s1 => (k s1).bind fun y s2 => .ok (x, y) s2) ∧
    (∀ fa b s, argR a fa b s = (frzR (fa s)).bind fun v s' => .ok (.v v) s') ∧ (∀ fa s, openSeq a fa s = (frzR (fa s)).bind fun v s' => .ok (v, none) s')) := by
  have hb : ∀ (r : Res OV), (r.bind fun o s' => (Res.opt o.pv s').bind fun v s'' => .ok (CA.v v) s'') = (frzR r).bind fun v s' => .ok (.v v) s' := fun r => by
    cases r with
    | ok o s => cases h : o.pv <;> simp [Res.bind, frzR, Res.opt, h]
    | exc e s => rfl
    | bad => rfl
  cases a <;> first | exact .inl ⟨_, rfl⟩ | exact .inr ⟨fun _ => rfl, fun _ _ => rfl, fun _ _ _ => rfl, fun _ _ _ => hb _, fun _ _ => rfl⟩
theorem tPk_of {a : Ex} {fa : S → Res OV} {Q : VK} (h : T g W (RlP g) (peek a fa) σ H Q) : tPk g W a fa σ H Q := by
  obtain ⟨G, s, F, R, p⟩ := h
  rcases var_or (g := g) (W := W) a with ⟨i, rfl⟩ | ⟨e1, e2, _⟩
  · obtain ⟨v, e, p⟩ := Post.opt p
    obtain ⟨hi, x, ex, r⟩ := R.look e
    exact ⟨x, ex, Post.here (b := x) R p ⟨fun _ z => z, r⟩⟩
  · rw [e1]
    rw [e2] at p
    exact ⟨G, s, F, R, Post.unpeek p⟩
def RlP2 (g : Gm) {α β : Type} (Rl : RL α β) : RL (PV × α) (V × β) := fun σ s G H p q P => PkR g G H p.1 q.1 ∧ Rl σ s G H p.2 q.2 P
/-- a value, then what is read behind it -/
theorem late_of {a : Ex} {fa : S → Res OV} {k : S → Res α} {Q : V × β → Hp → Prop} (h : T g W (RlP2 g Rl) (late a fa k) σ H Q) : tPk g W a fa σ H fun x H1 => T g W Rl k σ H1 fun y H2 => Q (x, y) H2 := by
  obtain ⟨G, s, F, R, p⟩ := h
  rcases var_or (g := g) (W := W) a with ⟨i, rfl⟩ | ⟨e1, e2, e3, _⟩
  · -- a name
    obtain ⟨v0, e0, p⟩ := (by
      cases hv : getV s i with
      | none => rw [show late (Ex.var i) fa k s = .bad by simp [late, hv, Res.opt, Res.bind]] at p; exact p.elim
      | some v => exact ⟨v, rfl, (by simpa [late, hv, Res.opt, Res.bind] using p)⟩ : ∃ v, getV s i = some v ∧ Post g W σ G H (Own F) (RlP2 g Rl) Q ((k s).bind fun y s' => (Res.opt (getV s' i) s').bind fun x s'' => .ok (x, y) s''))
    obtain ⟨_, x, ex, _⟩ := R.look e0
    refine ⟨x, ex, G, s, F, R, ?_⟩
    cases hk : k s with
    | bad => rw [hk] at p; exact p
    | exc e s1 => rw [hk] at p; exact p
    | ok y s1 =>
      rw [hk] at p
      have p : Post g W σ G H (Own F) (RlP2 g Rl) Q ((Res.opt (getV s1 i) s1).bind fun x s'' => .ok (x, y) s'') := p
      cases hv : getV s1 i with
      | none => rw [hv] at p; exact p.elim
      | some v =>
        rw [hv] at p
        intro G' H' F' P b t R1 d q
        obtain ⟨_, x', ex', r⟩ := R1.look hv
        rw [ex] at ex'; cases ex'
        exact p G' H' F' P (x, b) t R1 d ⟨r, q⟩
  · rw [e1]
    rw [e3] at p
    refine ⟨G, s, F, R, (Post.bind (Rl := RlV g) p).imp fun x H1 q => ?_⟩
    obtain ⟨G1, s1, F1, v, P, t, R1, d, ⟨nP, r⟩, p1⟩ := q
    refine ⟨G1, s1, F1, R1, ?_⟩
    have p2 : Post g W σ G1 H1 (Own F1) (RlP2 g Rl) Q ((k s1).bind fun y s2 => .ok (v, y) s2) := p1.sup fun a h => .inr h
    cases hk : k s1 with
    | bad => rw [hk] at p2; exact p2
    | exc e s2 => rw [hk] at p2; exact p2
    | ok y s2 =>
      rw [hk] at p2
      exact fun G' H' F' P b t R2 d q => p2 G' H' F' P (x, b) t R2 d ⟨PkR.of R2.sub (Rep.mono t.g _ _ r), q⟩

theorem Stp.sub' {G H G1 H1 : Hp} {A A1 A2 : Fp} (x : Stp G H A G1 H1 A1) (h : ∀ a, A2 a → A1 a ∨ A a) : Stp G H A G1 H1 A2 := ⟨x.g, x.keep, x.gnew, fun a k => (h a k).elim (x.fnew a) .inl⟩
/-! ### the arguments of a call -/
def CaR (g : Gm) (σ : L2.St) (G : Hp) : CA → V → Prop
  | .v p, x => Rep g G p x
  | .s i, x => σ[i]? = some (some x)
def CAs (g : Gm) (σ : L2.St) (G : Hp) : List CA → List V → Prop
  | [], xs => xs = []
  | c :: cs, xs => ∃ x r, xs = x :: r ∧ CaR g σ G c x ∧ CAs g σ G cs r
theorem CaR.mono {G' : Hp} (m : Same G G') {c : CA} {x : V} (h : CaR g σ G c x) : CaR g σ G' c x := by
  cases c with
  | v p => exact Rep.mono m _ _ h
  | s i => exact h
theorem CAs.mono {G' : Hp} (m : Same G G') : ∀ {cs : List CA} {xs : List V}, CAs g σ G cs xs → CAs g σ G' cs xs
  | [], _, h => h
  | c :: cs, _, h => by
    obtain ⟨x, r, e, h1, h2⟩ := h
    exact ⟨x, r, e, h1.mono m, CAs.mono m h2⟩
def sh1 (F : Nat → Fp) : Nat → Fp := fun i => F (i + 1)
def cons1 (P : Fp) (F : Nat → Fp) : Nat → Fp := fun i => match i with
  | 0 => P
  | i + 1 => F i
theorem RS.uncons {o : OV} {os : List OV} {w : Option V} {ws : L2.St} (R : RS g G H (o :: os) (w :: ws) F) : OvR g G H o (some w) (F 0) ∧ RS g G H os ws (sh1 F) ∧ ∀ a, F 0 a → G a = none ∧ ¬ Own (sh1 F) a := by
  refine ⟨R.at_ 0 (Nat.succ_pos _), ⟨by have := R.len; simpa using this, fun i hi => R.at_ (i + 1) (Nat.succ_lt_succ hi), fun i j a p q => Nat.succ.inj (R.dis (i + 1) (j + 1) a p q), fun i a p => R.fr (i + 1) a p, fun i a p => Nat.lt_of_succ_lt_succ (R.out (i + 1) a p), R.sub⟩, fun a p => ⟨R.fr 0 a p, fun ⟨i, q⟩ => ?_⟩⟩
  exact absurd (R.dis 0 (i + 1) a p q) (Nat.ne_of_lt (Nat.succ_pos i))
theorem RS.cons {o : OV} {os : List OV} {w : Option V} {ws : L2.St} {P : Fp} (h : OvR g G H o (some w) P) (R : RS g G H os ws F) (n : ∀ a, P a → G a = none ∧ ¬ Own F a) : RS g G H (o :: os) (w :: ws) (cons1 P F) where
  len := by simp [R.len]
  at_ := fun i hi => by
    cases i with
    | zero => exact h
    | succ i => exact R.at_ i (Nat.lt_of_succ_lt_succ hi)
  dis := fun i j a p q => by
    cases i with
    | zero =>
      cases j with
      | zero => rfl
      | succ j => exact absurd ⟨j, q⟩ (n a p).2
    | succ i =>
      cases j with
      | zero => exact absurd ⟨i, p⟩ (n a q).2
      | succ j => exact congrArg Nat.succ (R.dis i j a p q)
  fr := fun i a p => by
    cases i with
    | zero => exact (n a p).1
    | succ i => exact R.fr i a p
  out := fun i a p => by
    cases i with
    | zero => exact Nat.succ_pos _
    | succ i => exact Nat.succ_lt_succ (R.out i a p)
  sub := R.sub
theorem RS.nilS (m : Same G H) : RS g G H [] [] (fun _ => none_) := ⟨rfl, fun i hi => absurd hi (Nat.not_lt_zero i), fun _ _ _ p => p.elim, fun _ _ p => p.elim, fun _ _ p => p.elim, m⟩
theorem own_cons {P : Fp} {a : Addr} (h : Own (cons1 P F) a) : P a ∨ Own F a := by
  obtain ⟨i, p⟩ := h
  cases i with
  | zero => exact .inl p
  | succ i => exact .inr ⟨i, p⟩
theorem own_none {a : Addr} (h : Own (fun _ => none_) a) : False := by obtain ⟨_, p⟩ := h; exact p
theorem take_ok : ∀ (cas : List CA) (xs : List V) (s : S) (F : Nat → Fp) (ovs : List OV) (s2 : S), RS g G H s σ F → CAs g σ G cas xs → takeA cas s = some (ovs, s2) →
    ∃ Fa Fr, RS g G H ovs (xs.map some) Fa ∧ RS g G H s2 σ Fr ∧ (∀ a, Own Fa a → Own F a ∧ ¬ Own Fr a) ∧ ∀ a, Own Fr a → Own F a
  | [], _, s, F, ovs, s2, R, h, e => by
    cases (show _ = [] from h)
    cases e
    exact ⟨_, F, RS.nilS R.sub, R, fun a p => (own_none p).elim, fun _ p => p⟩
  | .v p :: r, _, s, F, ovs, s2, R, h, e => by
    obtain ⟨x, xr, rfl, h1, h2⟩ := h
    have e : (takeA r s).map (fun q => (OV.sh p :: q.1, q.2)) = some (ovs, s2) := e
    cases q : takeA r s with
    | none => rw [q] at e; cases e
    | some z =>
      rw [q] at e
      obtain ⟨os, s3⟩ := z
      cases e
      obtain ⟨Fa, Fr, R1, R2, n1, n2⟩ := take_ok r xr s F os s3 R h2 q
      exact ⟨cons1 none_ Fa, Fr, R1.cons (P := none_) ⟨fun _ z => z, x, rfl, h1⟩ fun _ z => z.elim, R2, fun a p => (own_cons p).elim (fun z => z.elim) (n1 a), n2⟩
  | .s i :: r, _, s, F, ovs, s2, R, h, e => by
    obtain ⟨x, xr, rfl, h1, h2⟩ := h
    have h1 : σ[i]? = some (some x) := h1
    have hi : i < s.length := by
      rw [R.len]; exact (List.getElem?_eq_some_iff.mp h1).1
    have hat := R.at_ i hi
    rw [h1] at hat
    have own : ∀ o : OV, o.own = true → getO s i = o → (takeA r (s.set i .emp)).map (fun q => (o :: q.1, q.2)) = some (ovs, s2) → ∃ Fa Fr, RS g G H ovs ((x :: xr).map some) Fa ∧ RS g G H s2 σ Fr ∧ (∀ a, Own Fa a → Own F a ∧ ¬ Own Fr a) ∧ ∀ a, Own Fr a → Own F a := by
      intro o _ ho e
      cases q : takeA r (s.set i .emp) with
      | none => rw [q] at e; cases e
      | some z =>
        rw [q] at e
        obtain ⟨os, s3⟩ := z
        cases e
        have R0 : RS g G H (s.set i .emp) σ (updF F i none_) := R.put0 hi (show OvR g G H .emp _ none_ from fun _ z => z) fun a p => p.elim
        obtain ⟨Fa, Fr, R1, R2, n1, n2⟩ := take_ok r xr (s.set i .emp) (updF F i none_) os s3 R0 h2 q
        have apart : ∀ a, F i a → ¬ Own (updF F i none_) a := fun a p z => by
          rcases own_updF z with z | ⟨j, hj, z⟩
          · exact z
          · exact hj (R.dis j i a z p)
        rw [ho] at hat
        refine ⟨cons1 (F i) Fa, Fr, R1.cons hat fun a p => ⟨R.fr i a p, fun z => apart a p (n1 a z).1⟩, R2, fun a p => ?_, fun a p => (n2 a p).put⟩
        rcases own_cons p with p | p
        · exact ⟨⟨i, p⟩, fun z => apart a p (n2 a z)⟩
        · exact ⟨(n1 a p).1.put, (n1 a p).2⟩
    unfold takeA at e
    cases q : getO s i with
    | emp => rw [q] at e; cases e
    | kls c => rw [q] at e; cases e
    | lst ys => rw [q] at e; exact own _ rfl q e
    | obj c fs => rw [q] at e; exact own _ rfl q e
    | sh v =>
      rw [q] at e hat
      have e : (takeA r s).map (fun q => (OV.sh v :: q.1, q.2)) = some (ovs, s2) := e
      cases q2 : takeA r s with
      | none => rw [q2] at e; cases e
      | some z =>
        rw [q2] at e
        obtain ⟨os, s3⟩ := z
        cases e
        obtain ⟨Fa, Fr, R1, R2, n1, n2⟩ := take_ok r xr s F os s3 R h2 q2
        exact ⟨cons1 none_ Fa, Fr, R1.cons (P := none_) ⟨fun _ z => z, hat.2⟩ fun _ z => z.elim, R2, fun a p => (own_cons p).elim (fun z => z.elim) (n1 a), n2⟩
theorem put_ok {G0 : Hp} {s0 : S} : ∀ (cas : List CA) (xs : List V) (outs : List OV) (s : S) (Fr Fa : Nat → Fp), CAs g σ G0 cas xs → RS g G H outs (xs.map some) Fa → RS g G H s σ Fr → (∀ a, Own Fa a → ¬ Own Fr a) →
    ∃ F', RS g G H (putA cas outs s0 s) σ F' ∧ ∀ a, Own F' a → Own Fr a ∨ Own Fa a
  | [], _, outs, s, Fr, Fa, h, R1, R2, n => by
    refine ⟨Fr, ?_, fun a p => .inl p⟩
    cases outs <;> exact R2
  | c :: cs, _, outs, s, Fr, Fa, h, R1, R2, n => by
    obtain ⟨x, xr, rfl, h1, h2⟩ := h
    cases outs with
    | nil => cases R1.len
    | cons o os =>
      obtain ⟨ho, R3, n3⟩ := R1.uncons
      have nt : ∀ a, Own (sh1 Fa) a → ¬ Own Fr a := fun a ⟨i, p⟩ => n a ⟨i + 1, p⟩
      have skip : ∃ F', RS g G H (putA cs os s0 s) σ F' ∧ ∀ a, Own F' a → Own Fr a ∨ Own Fa a := by
        obtain ⟨F', R4, k⟩ := put_ok cs xr os s Fr (sh1 Fa) h2 R3 R2 nt
        exact ⟨F', R4, fun a p => (k a p).imp id fun ⟨i, q⟩ => ⟨i + 1, q⟩⟩
      cases c with
      | v p => exact skip
      | s i =>
        have h1 : σ[i]? = some (some x) := h1
        have hi : i < s.length := by rw [R2.len]; exact (List.getElem?_eq_some_iff.mp h1).1
        have put : ∃ F', RS g G H (putA cs os s0 (s.set i o)) σ F' ∧ ∀ a, Own F' a → Own Fr a ∨ Own Fa a := by
          have R4 : RS g G H (s.set i o) σ (updF Fr i (Fa 0)) := R2.put0 hi (by rw [h1]; exact ho) fun a p => ⟨(n3 a p).1, fun j _ q => n a ⟨0, p⟩ ⟨j, q⟩⟩
          obtain ⟨F', R5, k⟩ := put_ok cs xr os (s.set i o) (updF Fr i (Fa 0)) (sh1 Fa) h2 R3 R4 fun a p q => by
            rcases own_updF q with q | ⟨j, _, q⟩
            · exact (n3 a q).2 p
            · exact nt a p ⟨j, q⟩
          refine ⟨F', R5, fun a p => ?_⟩
          rcases k a p with q | ⟨i, q⟩
          · rcases own_updF q with q | ⟨j, _, q⟩
            · exact .inr ⟨0, q⟩
            · exact .inl ⟨j, q⟩
          · exact .inr ⟨i + 1, q⟩
        show ∃ F', RS g G H (match getO s0 i with
          | .sh _ => putA cs os s0 s
          | _ => putA cs os s0 (s.set i o)) σ F' ∧ _
        cases getO s0 i with
        | sh v => exact skip
        | _ => exact put
/-- a call behind its arguments -/
theorem call_of {Γ : Env} {f : Nat} {cas : List CA} {xs : List V} {Q : VK} (R : RS g G H s σ F) (h : CAs g σ G cas xs)
    (p : Post g W σ G H (Own F) (RlO g) Q (match takeA cas s with
      | none => .bad
      | some q => callR (Γ.rho f q.1) cas s q.2)) : SpF g Γ f (xs ++ []) H Q (fun cls d H' => W cls d σ H') := by
  rw [List.append_nil]
  cases q : takeA cas s with
  | none => rw [q] at p; exact p.elim
  | some z =>
    rw [q] at p
    obtain ⟨ovs, s2⟩ := z
    obtain ⟨Fa, Fr, R1, R2, n1, n2⟩ := take_ok cas xs s F ovs s2 R h q
    refine ⟨G, ovs, Fa, R1, ?_⟩
    have p : Post g W σ G H (Own F) (RlO g) Q (callR (Γ.rho f ovs) cas s s2) := p
    have subA : ∀ a, Own Fa a → Own F a := fun a k => (n1 a k).1
    have back : ∀ {G' H' : Hp} {A' : Fp} {outs : List OV} {Fa' : Nat → Fp}, Stp G H (Own Fa) G' H' A' → (∀ a, Own Fa' a → A' a) → RS g G' H' outs (xs.map some) Fa' → ∃ F', RS g G' H' (putA cas outs s s2) σ F' ∧ ∀ a, Own F' a → Own Fr a ∨ Own Fa' a := by
      intro G' H' A' outs Fa' t sub Ro
      have R3 : RS g G' H' s2 σ Fr := R2.stp t (fun a k z => (n1 a z).2 k) Ro.sub
      refine put_ok cas xs outs s2 Fr Fa' h Ro R3 fun a k z => ?_
      rcases t.fnew a (sub a k) with w | w
      · exact (n1 a w).2 z
      · obtain ⟨u, hu⟩ := R2.no z
        rw [hu] at w; cases w
    cases hr : Γ.rho f ovs with
    | bad => rw [hr] at p; exact p
    | ok o outs =>
      rw [hr] at p
      intro G' H' Fa' P z t Ro d q
      obtain ⟨F', R4, k⟩ := back t (fun a k => .inr k) Ro
      have frA : ∀ a, Own Fr a → ¬ P a := fun a k z => by
        rcases t.fnew a (.inl z) with w | w
        · exact (n1 a w).2 k
        · obtain ⟨u, hu⟩ := R2.no k
          rw [hu] at w; cases w
      refine p G' H' F' P z ?_ R4 (fun c pc => ⟨(d c pc).1, fun z => ?_⟩) q
      · refine (Stp.sup t subA).sub' ?_
        intro a z
        rcases z with z | z
        · exact .inl (.inl z)
        · rcases k a z with z | z
          · exact .inr (n2 a z)
          · exact .inl (.inr z)
      · rcases k c z with z | z
        · exact frA c z pc
        · exact (d c pc).2 z
    | exc e outs =>
      rw [hr] at p
      intro G' H' Fa' d t Ro xr
      obtain ⟨F', R4, k⟩ := back t (fun a k => k) Ro
      refine p G' H' F' d ?_ R4 xr
      refine (Stp.sup t subA).sub' ?_
      intro a z
      rcases k a z with z | z
      · exact .inr (n2 a z)
      · exact .inl z
end
end PF
set_option Elab.async false
set_option linter.all false
set_option maxRecDepth 100000
/-! PF, part g: what loops walk; comprehensions. -/
namespace PF
open PySem PySem.Spec PyProof.Rows
open L2 (V Hp HO upd upd_same upd_ne Same SqL SqT WX PE PT PA PC OpR CallR IxR SlR MtR TruR VK)
section
variable {g : Gm} {W : WX} {σ : L2.St} {G H : Hp} {α β : Type} {Rl : RL α β} {s : S} {F : Nat → Fp} {X : L2.Cx} {e : Expr}
/-- an iterator of these items, from here on: what Pr holds stands as it stood -/
structure SrcOk (g : Gm) (J : L2.It) (xs : List PV) (Pr : Fp) (G1 H1 : Hp) : Prop where
  go : ∀ G H, Same G H → Same G1 G → (∀ a o, Pr a → H1 a = some o → H a = some o) → ∀ i, i < xs.length → J.go i H
  stop : ∀ G H, Same G H → Same G1 G → (∀ a o, Pr a → H1 a = some o → H a = some o) → J.stop xs.length H
  yld : ∀ G H, Same G H → Same G1 G → (∀ a o, Pr a → H1 a = some o → H a = some o) → ∀ i x H', J.yld i H x H' → ∀ v, xs[i]? = some v → ∃ G', Same G' H' ∧ Stp G H none_ G' H' none_ ∧ Rep g G' v x
/-- what is walked -/
def RlS (g : Gm) : RL (List PV × Lk) L2.It := fun σ s G H p J P => (∀ a, ¬ P a) ∧ match p.2 with
  | none => SrcOk g J p.1 none_ G H
  | some (i, ov) => ov = getO s i ∧ ov.own = true ∧ i < s.length ∧ ∀ Pr, OvR g G H ov σ[i]? Pr → SrcOk g J p.1 Pr G H
def TI (g : Gm) (W : WX) (f : S → Res (List PV × Lk)) : L2.TI := fun σ H R => ∃ G s F, RS g G H s σ F ∧ Post g W σ G H (Own F) (RlS g) R (f s)

theorem src_list {a : Addr} {vs : List V} {xs : List PV} {Pr : Fp} (k : ∀ G' H', Same G' H' → Same G G' → (∀ a o, Pr a → H a = some o → H' a = some o) → SqL g.K H' a vs) (r : Reps g G xs vs) : SrcOk g (L2.Itl g.K a) xs Pr G H where
  go := fun G' H' m m1 kp i hi => by
    have q := k G' H' m m1 kp
    have hj : i < vs.length := by rw [← r.length]; exact hi
    exact ⟨vs, vs[i], q, by simp [hj]⟩
  stop := fun G' H' m m1 kp => ⟨vs, k G' H' m m1 kp, by rw [r.length]; exact Nat.le_refl _⟩
  yld := fun G' H' m m1 kp i x H2 y v ev => by
    obtain ⟨e, y⟩ := y
    obtain ⟨u, eu, ru⟩ := r.get ev
    have z := y vs (k G' H' m m1 kp)
    rw [eu] at z; cases z
    subst e
    exact ⟨G', m, Stp.refl, Rep.mono m1 _ _ ru⟩
theorem src_tup {a : Addr} {vs : List V} {xs : List PV} {Pr : Fp} (h : SqT g.K G a vs) (r : Reps g G xs vs) : SrcOk g (L2.Itt g.K a) xs Pr G H where
  go := fun G' H' m m1 kp i hi => by
    have q := sqT_mono (m1.trans m) h
    have hj : i < vs.length := by rw [← r.length]; exact hi
    exact ⟨vs, vs[i], q, by simp [hj]⟩
  stop := fun G' H' m m1 kp => ⟨vs, sqT_mono (m1.trans m) h, by rw [r.length]; exact Nat.le_refl _⟩
  yld := fun G' H' m m1 kp i x H2 y v ev => by
    obtain ⟨e, y⟩ := y
    obtain ⟨u, eu, ru⟩ := r.get ev
    have z := y vs (sqT_mono (m1.trans m) h)
    rw [eu] at z; cases z
    subst e
    exact ⟨G', m, Stp.refl, Rep.mono m1 _ _ ru⟩
theorem rngL_get {lo hi : Int} {i : Nat} {v : PV} (h : (rngL lo hi)[i]? = some v) : v = .int (lo + (i : Nat)) ∧ i < (hi - lo).toNat := by
  unfold rngL at h
  rw [List.getElem?_map] at h
  cases q : (List.range (hi - lo).toNat)[i]? with
  | none => rw [q] at h; cases h
  | some j =>
    rw [q] at h
    have hj := List.getElem?_eq_some_iff.mp q
    obtain ⟨h1, h2⟩ := hj
    rw [List.getElem_range] at h2
    subst h2
    cases h
    exact ⟨rfl, by simpa using h1⟩
theorem rngL_len (lo hi : Int) : (rngL lo hi).length = (hi - lo).toNat := by simp [rngL]
theorem src_rng {lo hi : Int} {Pr : Fp} : SrcOk g (L2.Itr lo (hi - lo).toNat) (rngL lo hi) Pr G H where
  go := fun _ _ _ _ _ i hi => by rw [rngL_len] at hi; exact hi
  stop := fun _ _ _ _ _ => by rw [rngL_len]; exact Nat.le_refl _
  yld := fun G' H' m m1 kp i x H2 y v ev => by
    obtain ⟨e, y⟩ := y
    subst e y
    exact ⟨G', m, Stp.refl, by rw [(rngL_get ev).1]; exact rep_int⟩
theorem enumL_get : ∀ {xs : List PV} {k i : Nat} {v : PV}, (enumL k xs)[i]? = some v → ∃ x, xs[i]? = some x ∧ v = .tup [.int ((k + i : Nat) : Int), x]
  | [], k, i, v, h => by simp [enumL] at h
  | x :: xs, k, 0, v, h => by
    simp [enumL] at h
    exact ⟨x, rfl, by rw [← h]; simp⟩
  | x :: xs, k, i + 1, v, h => by
    have h : (enumL (k + 1) xs)[i]? = some v := by simpa [enumL] using h
    obtain ⟨y, e1, e2⟩ := enumL_get h
    have q : k + 1 + i = k + (i + 1) := by omega
    rw [q] at e2
    exact ⟨y, by simpa using e1, e2⟩
theorem enumL_len : ∀ (xs : List PV) (k : Nat), (enumL k xs).length = xs.length
  | [], _ => rfl
  | x :: xs, k => by simp [enumL, enumL_len xs]
/-- a new pair -/
theorem pair_new {p : Addr} {x y : V} {v w : PV} (m : Same G H) (n : H p = none) (h1 : Rep g G v x) (h2 : Rep g G w y) : ∃ G', Same G' (upd H p (.tup [x, y])) ∧ Stp G H none_ G' (upd H p (.tup [x, y])) none_ ∧ Rep g G' (.tup [v, w]) (.ref p) := by
  have hG : G p = none := m.free n
  exact ⟨upd G p (.tup [x, y]), same_newG m n, Stp.newG m n, p, [x, y], rfl, .inl (.inl upd_same), Reps.mono (same_upd hG) _ _ (Reps.cons h1 (Reps.cons h2 Reps.nil))⟩
theorem src_enum {a : Addr} {vs : List V} {xs : List PV} {Pr : Fp} (k : ∀ G' H', Same G' H' → Same G G' → (∀ a o, Pr a → H a = some o → H' a = some o) → SqL g.K H' a vs) (r : Reps g G xs vs) : SrcOk g (L2.Ite g.K a) (enumL 0 xs) Pr G H where
  go := fun G' H' m m1 kp i hi => by
    have q := k G' H' m m1 kp
    rw [enumL_len] at hi
    have hj : i < vs.length := by rw [← r.length]; exact hi
    exact ⟨vs, vs[i], q, by simp [hj]⟩
  stop := fun G' H' m m1 kp => ⟨vs, k G' H' m m1 kp, by rw [enumL_len, r.length]; exact Nat.le_refl _⟩
  yld := fun G' H' m m1 kp i x H2 y v ev => by
    obtain ⟨T, z, rfl, n, rfl, y⟩ := y
    obtain ⟨w, ew, rfl⟩ := enumL_get ev
    obtain ⟨u, eu, ru⟩ := r.get ew
    have q := y vs (k G' H' m m1 kp)
    rw [eu] at q; cases q
    have e0 : ((0 + i : Nat) : Int) = (i : Nat) := by simp
    rw [e0]
    exact pair_new m n (rep_int (i := (i : Nat))) (Rep.mono m1 _ _ ru)
theorem zipL_get : ∀ {xs ys : List PV} {i : Nat} {v : PV}, (zipL xs ys)[i]? = some v → ∃ x y, xs[i]? = some x ∧ ys[i]? = some y ∧ v = .tup [x, y]
  | [], _, i, v, h => by simp [zipL] at h
  | _ :: _, [], i, v, h => by simp [zipL] at h
  | x :: xs, y :: ys, 0, v, h => by
    simp [zipL] at h
    exact ⟨x, y, rfl, rfl, h.symm⟩
  | x :: xs, y :: ys, i + 1, v, h => by
    have h : (zipL xs ys)[i]? = some v := by simpa [zipL] using h
    obtain ⟨a, b, e1, e2, e3⟩ := zipL_get h
    exact ⟨a, b, by simpa using e1, by simpa using e2, e3⟩
theorem zipL_len : ∀ (xs ys : List PV), (zipL xs ys).length = min xs.length ys.length
  | [], _ => by simp [zipL]
  | _ :: _, [] => by simp [zipL]
  | x :: xs, y :: ys => by
    show (zipL xs ys).length + 1 = min (xs.length + 1) (ys.length + 1)
    rw [zipL_len xs ys]; omega
theorem src_zipL {a b : Addr} {vs ws : List V} {xs ys : List PV} {Pr : Fp} (h1 : SqL g.K G a vs) (h2 : SqL g.K G b ws) (r1 : Reps g G xs vs) (r2 : Reps g G ys ws) : SrcOk g (L2.Itz g.K a b) (zipL xs ys) Pr G H where
  go := fun G' H' m m1 kp i hi => by
    rw [zipL_len] at hi
    have l1 := r1.length
    have l2 := r2.length
    have hj : i < vs.length := by omega
    have hk : i < ws.length := by omega
    exact ⟨vs, ws, vs[i], ws[i], (m1.trans m).seq h1, (m1.trans m).seq h2, by simp [hj], by simp [hk]⟩
  stop := fun G' H' m m1 kp => ⟨vs, ws, (m1.trans m).seq h1, (m1.trans m).seq h2, by rw [zipL_len, r1.length, r2.length]; omega⟩
  yld := fun G' H' m m1 kp i x H2 y v ev => by
    obtain ⟨T, z, z2, rfl, n, rfl, y1, y2⟩ := y
    obtain ⟨a, b, e1, e2, rfl⟩ := zipL_get ev
    obtain ⟨u, eu, ru⟩ := r1.get e1
    obtain ⟨u2, eu2, ru2⟩ := r2.get e2
    have q := y1 vs ((m1.trans m).seq h1)
    rw [eu] at q; cases q
    have q := y2 ws ((m1.trans m).seq h2)
    rw [eu2] at q; cases q
    exact pair_new m n (Rep.mono m1 _ _ ru) (Rep.mono m1 _ _ ru2)
theorem src_zipT {a b : Addr} {vs ws : List V} {xs ys : List PV} {Pr : Fp} (h1 : SqT g.K G a vs) (h2 : SqT g.K G b ws) (r1 : Reps g G xs vs) (r2 : Reps g G ys ws) : SrcOk g (RZ.ItzT g.K a b) (zipL xs ys) Pr G H where
  go := fun G' H' m m1 kp i hi => by
    rw [zipL_len] at hi
    have l1 := r1.length
    have l2 := r2.length
    have hj : i < vs.length := by omega
    have hk : i < ws.length := by omega
    exact ⟨vs, ws, vs[i], ws[i], sqT_mono (m1.trans m) h1, sqT_mono (m1.trans m) h2, by simp [hj], by simp [hk]⟩
  stop := fun G' H' m m1 kp => ⟨vs, ws, sqT_mono (m1.trans m) h1, sqT_mono (m1.trans m) h2, by rw [zipL_len, r1.length, r2.length]; omega⟩
  yld := fun G' H' m m1 kp i x H2 y v ev => by
    obtain ⟨T, z, z2, rfl, n, rfl, y1, y2⟩ := y
    obtain ⟨a, b, e1, e2, rfl⟩ := zipL_get ev
    obtain ⟨u, eu, ru⟩ := r1.get e1
    obtain ⟨u2, eu2, ru2⟩ := r2.get e2
    have q := y1 vs (sqT_mono (m1.trans m) h1)
    rw [eu] at q; cases q
    have q := y2 ws (sqT_mono (m1.trans m) h2)
    rw [eu2] at q; cases q
    exact pair_new m n (Rep.mono m1 _ _ ru) (Rep.mono m1 _ _ ru2)

/-! ### targets -/
mutual
def gT (K : PySem.W.Frag) : Tg → L2.TG
  | .v i => L2.gName i
  | .t ts => L2.gTup K (lenT ts) (gTs K ts)
def gTs (K : PySem.W.Frag) : Tgs → L2.TGs
  | .nil => L2.gNil
  | .cons t ts => L2.gCons (gT K t) (gTs K ts)
def lenT : Tgs → Nat
  | .nil => 0
  | .cons _ ts => lenT ts + 1
end
theorem asg_one {e : Expr} {es : List Expr} {env : PySem.Env} (h : ∀ a b, e ≠ .Starred a b) : assignEach (e :: es) env = (false, assign e env) :: assignEach es env := by
  cases e <;> first | rfl | exact absurd rfl (h _ _)
theorem chkT_star {N : List Tx} {sc : Scope} {fnc : Str → Bool} {t : Tg} {e : Expr} (h : chkT N sc fnc t e = true) : ∀ a b, e ≠ .Starred a b := by
  intro a b q
  subst q
  cases t <;> exact ff h
mutual
theorem pg_ok {N : List Tx} {fnc : Str → Bool} (hN : X.N = N.map mkS) (nd : X.N.Nodup) (hc : X.calm = true) (hf : ∀ x, fnc x = true → X.fn x = true) : ∀ (t : Tg) (e : Expr), chkT N X.env.scope fnc t e = true → L2.PG X e (gT X.K t)
  | .v i, e, h => by
    cases e <;> first | (exact ff h) | skip
    rename_i x p
    have h : (isNm N i x && locB X.env.scope fnc x) = true := h
    rw [Bool.and_eq_true] at h
    obtain ⟨h1, h2⟩ := locB_ok h.2
    exact L2.pg_name nd (by rw [hN]; exact isNm_ok h.1) h1 (h2.imp (hf x) id)
  | .t ts, e, h => by
    cases e <;> first | (exact ff h) | skip
    rename_i es n p
    have h : chkTs N X.env.scope fnc ts es = true := h
    obtain ⟨h1, h2, h3⟩ := pgs_ok hN nd hc hf ts es h
    exact L2.pg_tup hc h1 h2 h3
theorem pgs_ok {N : List Tx} {fnc : Str → Bool} (hN : X.N = N.map mkS) (nd : X.N.Nodup) (hc : X.calm = true) (hf : ∀ x, fnc x = true → X.fn x = true) : ∀ (ts : Tgs) (es : List Expr), chkTs N X.env.scope fnc ts es = true →
    L2.PGs X es (gTs X.K ts) ∧ (assignEach es X.env).length = lenT ts ∧ (assignEach es X.env).findIdx? (·.1) = none
  | .nil, es, h => by
    cases es with
    | nil => exact ⟨L2.pgs_nil, rfl, rfl⟩
    | cons e r => exact ff h
  | .cons t ts, es, h => by
    cases es with
    | nil => exact ff h
    | cons e r =>
      have h : (chkT N X.env.scope fnc t e && chkTs N X.env.scope fnc ts r) = true := h
      rw [Bool.and_eq_true] at h
      obtain ⟨h1, h2, h3⟩ := pgs_ok hN nd hc hf ts r h.2
      have q := asg_one (es := r) (env := X.env) (chkT_star h.1)
      refine ⟨L2.pgs_cons (pg_ok hN nd hc hf t e h.1) h1 (by rw [q]; rfl), by rw [q]; show (assignEach r X.env).length + 1 = lenT ts + 1; rw [h2], by rw [q, List.findIdx?_cons, h3]; rfl⟩
end

mutual
theorem asg_of (hK : X.K = g.K) : ∀ (t : Tg) (v : PV) (x : V) (s s' : S) (σ : L2.St) (F : Nat → Fp) (Q : L2.St → Hp → Prop), RS g G H s σ F → Rep g G v x → asg t v s = some s' →
    (∀ σ' F', RS g G H s' σ' F' → σ'.length = σ.length → (∀ j, j ∉ t.slots → σ'[j]? = σ[j]?) → (∀ a, Own F' a → Own F a) → Q σ' H) → gT X.K t x σ H Q
  | .v i, v, x, s, s', σ, F, Q, R, r, e, k => by
    have e : (if i < s.length then some (s.set i (.sh v)) else none) = some s' := e
    split at e
    · rename_i hi
      cases e
      have hj : i < σ.length := by rw [← R.len]; exact hi
      refine k (σ.set i (some x)) (updF F i none_) (R.put hi ⟨fun _ z => z, x, by simp [hj], r⟩ (by simp) (fun j hne => by simp [List.getElem?_set_ne (Ne.symm hne)]) fun _ z => z.elim) (by simp) (fun j hj => ?_) fun a p => p.put
      have hne : j ≠ i := fun z => hj (by rw [z]; exact List.mem_singleton.mpr rfl)
      simp [List.getElem?_set_ne (Ne.symm hne)]
    · cases e
  | .t ts, v, x, s, s', σ, F, Q, R, r, e, k => by
    cases v with
    | tup vs =>
      obtain ⟨a, xs, rfl, h1, r⟩ := r
      have e : asgs ts vs s = some s' := e
      refine ⟨a, xs, rfl, by rw [hK]; exact sqT_mono R.sub h1, ?_, asgs_of hK ts vs xs s s' σ F Q R r e k⟩
      rw [← r.length]; exact asgs_len ts vs s s' e
    | _ => cases e
theorem asgs_len : ∀ (ts : Tgs) (vs : List PV) (s s' : S), asgs ts vs s = some s' → vs.length = lenT ts
  | .nil, [], s, s', _ => rfl
  | .nil, _ :: _, s, s', e => by cases e
  | .cons _ _, [], s, s', e => by cases e
  | .cons t ts, v :: vs, s, s', e => by
    have e : (asg t v s).bind (fun s1 => asgs ts vs s1) = some s' := e
    cases q : asg t v s with
    | none => rw [q] at e; cases e
    | some s1 =>
      rw [q] at e
      show vs.length + 1 = lenT ts + 1
      rw [asgs_len ts vs s1 s' e]
theorem asgs_of (hK : X.K = g.K) : ∀ (ts : Tgs) (vs : List PV) (xs : List V) (s s' : S) (σ : L2.St) (F : Nat → Fp) (Q : L2.St → Hp → Prop), RS g G H s σ F → Reps g G vs xs → asgs ts vs s = some s' →
    (∀ σ' F', RS g G H s' σ' F' → σ'.length = σ.length → (∀ j, j ∉ ts.slots → σ'[j]? = σ[j]?) → (∀ a, Own F' a → Own F a) → Q σ' H) → gTs X.K ts xs σ H Q
  | .nil, [], xs, s, s', σ, F, Q, R, r, e, k => by
    cases e
    exact ⟨r, k σ F R rfl (fun _ _ => rfl) fun _ p => p⟩
  | .nil, _ :: _, xs, s, s', σ, F, Q, R, r, e, k => by cases e
  | .cons _ _, [], xs, s, s', σ, F, Q, R, r, e, k => by cases e
  | .cons t ts, v :: vs, xs, s, s', σ, F, Q, R, r, e, k => by
    have e : (asg t v s).bind (fun s1 => asgs ts vs s1) = some s' := e
    cases q : asg t v s with
    | none => rw [q] at e; cases e
    | some s1 =>
      rw [q] at e
      obtain ⟨x, xr, rfl, h1, h2⟩ := r
      refine ⟨x, xr, rfl, asg_of hK t v x s s1 σ F _ R h1 q fun σ1 F1 R1 l1 n1 o1 => ?_⟩
      refine asgs_of hK ts vs xr s1 s' σ1 F1 Q R1 h2 e fun σ2 F2 R2 l2 n2 o2 => ?_
      refine k σ2 F2 R2 (l2.trans l1) (fun j hj => ?_) fun a p => o1 a (o2 a p)
      have hj : j ∉ t.slots ++ ts.slots := hj
      rw [List.mem_append, not_or] at hj
      rw [n2 j hj.2, n1 j hj.1]
end

/-! ### comprehensions -/
theorem wipe_get : ∀ (vs : List Nat) (σ : L2.St) (j : Nat), j ∉ vs → (L2.wipe σ vs)[j]? = σ[j]?
  | [], σ, j, _ => rfl
  | v :: vs, σ, j, h => by
    rw [List.mem_cons, not_or] at h
    show ((L2.wipe σ vs).set v none)[j]? = σ[j]?
    rw [List.getElem?_set_ne (Ne.symm h.1), wipe_get vs σ j h.2]
theorem wipeS_len (s : S) : ∀ vs : List Nat, (wipeS s vs).length = s.length
  | [] => rfl
  | v :: vs => by show ((wipeS s vs).set v .emp).length = _; rw [List.length_set, wipeS_len s vs]
theorem RS.wipe (R : RS g G H s σ F) : ∀ (own : List Nat), ∃ F', RS g G H (wipeS s own) (L2.wipe σ own) F' ∧ (∀ a, Own F' a → Own F a) ∧ ∀ j, j ∉ own → F' j = F j
  | [] => ⟨F, R, fun _ p => p, fun _ _ => rfl⟩
  | v :: vs => by
    obtain ⟨F', R1, k, n⟩ := R.wipe vs
    by_cases hv : v < (wipeS s vs).length
    · refine ⟨updF F' v none_, R1.put hv (show OvR g G H .emp _ none_ from fun _ z => z) (by simp [L2.wipe, L2.wipe_length]) (fun j hne => ?_) (fun _ z => z.elim), fun a p => k a p.put, fun j hj => ?_⟩
      · show ((L2.wipe σ vs).set v none)[j]? = _
        rw [List.getElem?_set_ne (Ne.symm hne)]
      · rw [List.mem_cons, not_or] at hj
        rw [updF_ne hj.1, n j hj.2]
    · have h1 : (wipeS s (v :: vs)) = wipeS s vs := by
        show (wipeS s vs).set v .emp = _
        rw [List.set_eq_of_length_le (Nat.le_of_not_lt hv)]
      have h2 : L2.wipe σ (v :: vs) = L2.wipe σ vs := by
        show (L2.wipe σ vs).set v none = _
        rw [List.set_eq_of_length_le]
        rw [← R1.len]; exact Nat.le_of_not_lt hv
      rw [h1, h2]
      exact ⟨F', R1, k, fun j hj => n j fun z => hj (List.mem_cons_of_mem _ z)⟩
theorem back_get {s1 : S} : ∀ (own : List Nat) (s2 : S) (j : Nat), s2.length = s1.length → getO (back s1 own s2) j = if j ∈ own then getO s1 j else getO s2 j
  | [], s2, j, _ => by simp [back]
  | v :: vs, s2, j, h => by
    have hl : (back s1 vs s2).length = s2.length := by
      clear h
      induction vs with
      | nil => rfl
      | cons w ws ih => show ((back s1 ws s2).set w _).length = _; rw [List.length_set, ih]
    show getO ((back s1 vs s2).set v (getO s1 v)) j = _
    by_cases hv : v < s2.length
    · rw [getO_set (by rw [hl]; exact hv)]
      by_cases e : j = v
      · subst e; simp
      · rw [if_neg e, back_get vs s2 j h]
        simp [e]
    · rw [List.set_eq_of_length_le (by rw [hl]; exact Nat.le_of_not_lt hv), back_get vs s2 j h]
      by_cases e : j = v
      · subst e
        have h1 : getO s1 j = .emp := getO_out (by rw [← h]; exact Nat.le_of_not_lt hv)
        have h2 : getO s2 j = .emp := getO_out (Nat.le_of_not_lt hv)
        simp [h1, h2]
      · simp [e]
theorem back_len {s1 : S} (s2 : S) : ∀ own : List Nat, (back s1 own s2).length = s2.length
  | [] => rfl
  | w :: ws => by show ((back s1 ws s2).set w _).length = _; rw [List.length_set, back_len s2 ws]

theorem wipe_in : ∀ (vs : List Nat) (σ : L2.St) (j : Nat), j ∈ vs → j < σ.length → (L2.wipe σ vs)[j]? = some none
  | [], σ, j, h, _ => by cases h
  | v :: vs, σ, j, h, hl => by
    show ((L2.wipe σ vs).set v none)[j]? = some none
    by_cases e : j = v
    · subst e; rw [List.getElem?_set_self (by rw [L2.wipe_length]; exact hl)]
    · rw [List.getElem?_set_ne (Ne.symm e)]
      rcases List.mem_cons.mp h with z | z
      · exact absurd z e
      · exact wipe_in vs σ j z hl
theorem wipe_eq {σ' : L2.St} {own : List Nat} (hl : σ'.length = σ.length) (h : ∀ j, j ∉ own → σ'[j]? = σ[j]?) : L2.wipe σ' own = L2.wipe σ own := by
  refine List.ext_getElem? fun j => ?_
  by_cases hj : j ∈ own
  · by_cases hk : j < σ.length
    · rw [wipe_in own σ' j hj (by rw [hl]; exact hk), wipe_in own σ j hj hk]
    · rw [List.getElem?_eq_none (by rw [L2.wipe_length, hl]; exact Nat.le_of_not_lt hk), List.getElem?_eq_none (by rw [L2.wipe_length]; exact Nat.le_of_not_lt hk)]
  · rw [wipe_get own σ' j hj, wipe_get own σ j hj, h j hj]
theorem wipe_idem (own : List Nat) : L2.wipe (L2.wipe σ own) own = L2.wipe σ own := wipe_eq (L2.wipe_length σ own) fun j hj => wipe_get own σ j hj
theorem wipeS_get : ∀ (vs : List Nat) (s : S) (j : Nat), j ∉ vs → getO (wipeS s vs) j = getO s j
  | [], s, j, _ => rfl
  | v :: vs, s, j, h => by
    rw [List.mem_cons, not_or] at h
    show getO ((wipeS s vs).set v .emp) j = _
    by_cases hv : v < (wipeS s vs).length
    · rw [getO_set hv, if_neg h.1, wipeS_get vs s j h.2]
    · rw [List.set_eq_of_length_le (Nat.le_of_not_lt hv), wipeS_get vs s j h.2]
theorem OvR.plain {G' H' : Hp} {o : OV} {w : Option (Option V)} {P : Fp} (h : OvR g G H o w P) (n : o.own = false) (m : Same G G') : OvR g G' H' o w none_ := by
  cases o with
  | emp => exact fun _ z => z
  | sh v =>
    obtain ⟨_, x, e, r⟩ := h
    exact ⟨fun _ z => z, x, e, Rep.mono m _ _ r⟩
  | lst xs => cases n
  | obj c fs => cases n
  | kls c => exact ⟨fun _ z => z, h.2⟩

/-- the list that is walked, if it is an own one, is locked -/
structure Locked (g : Gm) (σ : L2.St) (J : L2.It) (xs : List PV) (lk : Lk) (s1 : S) (F1 Fl : Nat → Fp) (Pr : Fp) (G1 H1 : Hp) : Prop where
  rs : RS g G1 H1 (lockO lk s1) σ Fl
  sub : ∀ a, Own Fl a → Own F1 a
  src : SrcOk g J xs Pr G1 H1
  pr : ∀ a, Pr a → Own F1 a ∧ ¬ Own Fl a ∧ G1 a = none ∧ ∃ o, H1 a = some o
  at_ : ∀ i ov, lk = some (i, ov) → i < s1.length ∧ ov.own = true ∧ getO s1 i = ov ∧ OvR g G1 H1 ov σ[i]? Pr
  no : lk = none → ∀ a, ¬ Pr a
theorem lock_of {J : L2.It} {xs : List PV} {lk : Lk} {s1 : S} {F1 : Nat → Fp} {G1 H1 : Hp} {P : Fp} (R1 : RS g G1 H1 s1 σ F1) (h : RlS g σ s1 G1 H1 (xs, lk) J P) : ∃ Fl Pr, Locked g σ J xs lk s1 F1 Fl Pr G1 H1 := by
  obtain ⟨_, h⟩ := h
  cases lk with
  | none => exact ⟨F1, none_, R1, fun _ p => p, h, fun _ z => z.elim, (fun i ov e => by cases e), fun _ _ z => z⟩
  | some p =>
    obtain ⟨i, ov⟩ := p
    obtain ⟨e1, e2, e3, h⟩ := h
    subst e1
    have hat := R1.at_ i e3
    have R2 : RS g G1 H1 (s1.set i .emp) σ (updF F1 i none_) := R1.put0 e3 (show OvR g G1 H1 .emp _ none_ from fun _ z => z) fun a z => z.elim
    refine ⟨_, F1 i, R2, fun a p => p.put, h _ hat, fun a p => ⟨⟨i, p⟩, fun z => ?_, R1.fr i a p, hat.there p⟩, fun j ov e => ?_, fun e => by cases e⟩
    · rcases own_updF z with z | ⟨j, hj, z⟩
      · exact z
      · exact hj (R1.dis j i a z p)
    · cases e
      exact ⟨e3, e2, rfl, hat⟩
/-- the lock is opened behind the walk -/
theorem unlock_of {J : L2.It} {xs : List PV} {lk : Lk} {s1 s2 : S} {F1 Fl Fx : Nat → Fp} {Pr : Fp} {G1 H1 : Hp} {σ' : L2.St} {A' : Fp} (L : Locked g σ J xs lk s1 F1 Fl Pr G1 H1) (R : RS g G H s2 σ' Fx) (t : Stp G1 H1 (Own Fl) G H A') (sub : ∀ a, Own Fx a → A' a)
    (hσ : ∀ i ov, lk = some (i, ov) → i < s2.length ∧ σ'[i]? = σ[i]?) : ∃ F', RS g G H (unlock lk s2) σ' F' ∧ (∀ a, Own F' a → Own Fx a ∨ Pr a) := by
  cases lk with
  | none => exact ⟨Fx, R, fun a p => .inl p⟩
  | some p =>
    obtain ⟨i, ov⟩ := p
    obtain ⟨hi, ho, he, hat⟩ := L.at_ i ov rfl
    obtain ⟨hi2, hs⟩ := hσ i ov rfl
    have hat2 : OvR g G H ov σ'[i]? Pr := by
      rw [hs]
      exact hat.stp t fun a p => (L.pr a p).2.1
    refine ⟨updF Fx i Pr, R.put0 hi2 hat2 fun a p => ⟨hat.free t (fun b q => (L.pr b q).2.1) p (L.pr a p).2.2.1, fun j _ q => ?_⟩, fun a p => ?_⟩
    · rcases t.fnew a (sub a ⟨j, q⟩) with z | z
      · exact (L.pr a p).2.1 z
      · obtain ⟨u, hu⟩ := (L.pr a p).2.2.2
        rw [hu] at z; cases z
    · rcases own_updF p with z | ⟨j, _, z⟩
      · exact .inr z
      · exact .inl ⟨j, z⟩
/-- another object of ours is written -/
theorem RS.other {D : Addr} {u : HO} (R : RS g G H s σ F) (n : ¬ Own F D) (k : G D = none) : RS g G (upd H D u) s σ F where
  len := R.len
  at_ := fun i hi => (R.at_ i hi).frame (Same.refl _) fun a v p e => by rw [upd_ne (fun z => n (by rw [← z]; exact ⟨i, p⟩))]; exact e
  dis := R.dis
  fr := R.fr
  out := R.out
  sub := fun a v e => by rw [upd_ne (L2.ne_of_none e k)]; exact R.sub a v e

/-- what a comprehension's turn does -/
def Body (g : Gm) (K : PySem.W.Frag) (own : List Nat) (tg : Tg) (tt : L2.TT) (te : L2.TE) (body : PV → S → Res (Option PV)) : Prop :=
  ∀ (v : PV) (x : V) (s1 : S) (σ1 : L2.St) (G H : Hp) (F : Nat → Fp) (K1 : V → Hp → Prop) (K2 : Hp → Prop), RS g G H s1 σ1 F → Rep g G v x →
    (match body v s1 with
      | .ok (some y) s2 => ∀ G' H' F' σ2 z, Stp G H (Own F) G' H' (Own F') → RS g G' H' s2 σ2 F' → L2.wipe σ2 own = L2.wipe σ1 own → Rep g G' y z → K1 z H'
      | .ok none s2 => ∀ G' H' F' σ2, Stp G H (Own F) G' H' (Own F') → RS g G' H' s2 σ2 F' → L2.wipe σ2 own = L2.wipe σ1 own → K2 H'
      | _ => False) →
    gT K tg x σ1 H fun σ2 H2 => L2.wipe σ2 own = L2.wipe σ1 own ∧ tt σ2 H2 fun b H3 => if b = true then te σ2 H3 K1 else K2 H3
theorem comp_of {own : List Nat} {tg : Tg} {tt : L2.TT} {te : L2.TE} {body : PV → S → Res (Option PV)} {fs : S → Res (List PV × Lk)} {Q : VK} {K : PySem.W.Frag} (hb : Body g K own tg tt te body) (h : T g W (RlO g) (fun s => compR own body (fs s)) σ H Q) :
    L2.tLc (TI g W fs) (gT K tg) tt te own σ H Q := by
  obtain ⟨G, s, F, R, p⟩ := h
  refine ⟨G, s, F, R, (Post.bind (Rl := RlS g) p).imp fun J H1 q => ?_⟩
  obtain ⟨G1, s1, F1, ⟨xs, lk⟩, P, t1, R1, d1, src, p1⟩ := q
  intro D hD
  have p1 : Post g W σ G1 H1 (fun c => P c ∨ Own F1 c) (RlO g) Q (if (plainAt s1 own && decide (xs.length ≤ big)) = true then
    (compL own body xs [] (wipeS (lockO lk s1) own)).bind fun ys s2 => .ok (.lst ys) (unlock lk (back s1 own s2)) else .bad) := p1
  cases hc : (plainAt s1 own && decide (xs.length ≤ big)) with
  | false => rw [hc, if_neg Bool.false_ne_true] at p1; exact p1.elim
  | true =>
    rw [hc, if_pos rfl] at p1
    rw [Bool.and_eq_true, decide_eq_true_eq] at hc
    obtain ⟨hpl, hbig⟩ := hc
    obtain ⟨Fl, Pr, L⟩ := lock_of R1 src
    obtain ⟨Fw, Rw, kw, _⟩ := L.rs.wipe own
    cases hr : compL own body xs [] (wipeS (lockO lk s1) own) with
    | bad => rw [hr] at p1; exact p1.elim
    | exc e s2 =>
      -- a comprehension lets no exception out
      exfalso
      have no : ∀ (l acc : List PV) (s : S), compL own body l acc s ≠ .exc e s2 := by
        intro l
        induction l with
        | nil => intro acc s z; cases z
        | cons x l ih =>
          intro acc s z
          unfold compL at z
          split at z
          · exact ih _ _ z
          · exact ih _ _ z
          · cases z
          · cases z
      exact no _ _ _ hr
    | ok ys s2 =>
      rw [hr] at p1
      have p1 : Post g W σ G1 H1 (fun c => P c ∨ Own F1 c) (RlO g) Q (.ok (.lst ys) (unlock lk (back s1 own s2))) := p1
      have H1D : ∀ a o, H1 a = some o → a ≠ D := fun a o e => L2.ne_of_none e hD
      have G1D : G1 D = none := R1.sub.free hD
      let Iv : Nat → Hp → Prop := fun i Hx => ∃ Gx sx Fx acc vs, RS g Gx Hx (wipeS sx own) (L2.wipe σ own) Fx ∧ Stp G1 H1 (Own Fl) Gx Hx (fun c => c = D ∨ Own Fx c) ∧ Hx D = some (.lst vs) ∧ Gx D = none ∧ ¬ Own Fx D ∧ Reps g Gx acc vs ∧ acc.length ≤ i ∧ compL own body (xs.drop i) acc sx = .ok ys s2
      refine ⟨fun i m Hx => m = xs.length - i ∧ i ≤ xs.length ∧ Iv i Hx, ⟨xs.length, by simp, Nat.zero_le _, ?_⟩, ?_⟩
      · -- start
        obtain ⟨Fw2, Rw2, kw2, _⟩ := Rw.wipe own
        rw [wipe_idem] at Rw2
        have nD : ¬ Own Fw2 D := fun z => by
          obtain ⟨u, hu⟩ := Rw2.no z
          rw [hD] at hu; cases hu
        refine ⟨G1, wipeS (lockO lk s1) own, Fw2, [], [], Rw2.new hD, (Stp.new hD).sub fun a z => z.imp id fun z => kw a (kw2 a z), upd_same, G1D, nD, Reps.nil, Nat.le_refl _, ?_⟩
        rw [List.drop_zero]; exact hr
      · rintro i m Hx ⟨rfl, hi, Gx, sx, Fx, acc, vs, Rx, tx, hxD, gxD, nD, ra, la, hcomp⟩
        have keepPr : ∀ a o, Pr a → H1 a = some o → Hx a = some o := fun a o pa e => tx.keep a o e (L.pr a pa).2.1
        by_cases hlt : i < xs.length
        · -- a turn
          refine .inr ⟨L.src.go Gx Hx Rx.sub tx.g keepPr i hlt, Iv (i + 1), fun H' p' => ⟨xs.length - (i + 1), by omega, rfl, hlt, p'⟩, fun x H' y => ?_⟩
          have hxi : xs[i]? = some xs[i] := List.getElem?_eq_getElem hlt
          obtain ⟨G2, m2, t2, r2⟩ := L.src.yld Gx Hx Rx.sub tx.g keepPr i x H' y _ hxi
          have R2 : RS g G2 H' (wipeS sx own) (L2.wipe σ own) Fx := Rx.stp t2 (fun _ _ z => z) m2
          have h2D : H' D = some (.lst vs) := t2.keep D _ hxD fun z => z
          have g2D : G2 D = none := by
            cases e : G2 D with
            | none => rfl
            | some o =>
              rcases t2.gnew D o e gxD with z | z
              · exact z.elim
              · rw [hxD] at z; cases z
          rw [List.drop_eq_getElem_cons hlt] at hcomp
          have t2' : Stp Gx Hx (fun c => c = D ∨ Own Fx c) G2 H' (fun c => c = D ∨ Own Fx c) := ⟨t2.g, fun a o e _ => t2.keep a o e fun z => z, fun a o e k => (t2.gnew a o e k).elim (fun z => z.elim) .inr, fun a z => .inl z⟩
          have key := hb (xs[i]) x (wipeS sx own) (L2.wipe σ own) G2 H' Fx (fun y H4 => ∃ acc, H4 D = some (.lst acc) ∧ acc.length < sizeLine ∧ Iv (i + 1) (upd H4 D (.lst (acc ++ [y])))) (Iv (i + 1)) R2 r2
          have keepD : ∀ {G4 H4 : Hp} {F4 : Nat → Fp}, Stp G2 H' (Own Fx) G4 H4 (Own F4) → H4 D = some (.lst vs) ∧ G4 D = none ∧ ¬ Own F4 D := by
            intro G4 H4 F4 t
            refine ⟨t.keep D _ h2D nD, ?_, fun z => ?_⟩
            · cases e : G4 D with
              | none => rfl
              | some o =>
                rcases t.gnew D o e g2D with z | z
                · exact absurd z nD
                · rw [h2D] at z; cases z
            · rcases t.fnew D z with z | z
              · exact nD z
              · rw [h2D] at z; cases z
          have lift : ∀ {G4 H4 : Hp} {F4 : Nat → Fp}, Stp G2 H' (Own Fx) G4 H4 (Own F4) → Stp G1 H1 (Own Fl) G4 H4 (fun c => c = D ∨ Own F4 c) := by
            intro G4 H4 F4 t
            refine (tx.trans t2').trans ?_
            refine ⟨t.g, fun a o e n => t.keep a o e fun z => n (.inr z), fun a o e k => (t.gnew a o e k).imp .inr id, fun a z => ?_⟩
            rcases z with z | z
            · exact .inl (.inl z)
            · exact (t.fnew a z).imp .inr id
          rw [wipe_idem] at key
          refine key ?_
          unfold compL at hcomp
          split at hcomp
          · rename_i y s' hbody
            rw [hbody]
            intro G4 H4 F4 σ4 z t R4 hw r4
            obtain ⟨d1, d2, d3⟩ := keepD t
            have hlen : vs.length < sizeLine := by
              rw [← ra.length, ← big_eq]; omega
            refine ⟨vs, d1, hlen, ?_⟩
            obtain ⟨F5, R5, k5, _⟩ := R4.wipe own
            rw [hw] at R5
            have n5 : ¬ Own F5 D := fun z => d3 (k5 D z)
            have tl := lift t
            refine ⟨G4, s', F5, acc ++ [y], vs ++ [z], R5.other n5 d2, ⟨tl.g, fun a o e n => ?_, fun a o e k => tl.gnew a o e k, fun a z => tl.fnew a (z.imp id (k5 a))⟩, upd_same, d2, n5, (Reps.mono (t2.g.trans t.g) _ _ ra).append (Reps.cons r4 Reps.nil), by simp; omega, hcomp⟩
            rw [upd_ne (H1D a o e)]
            exact tl.keep a o e n
          · rename_i s' hbody
            rw [hbody]
            intro G4 H4 F4 σ4 t R4 hw
            obtain ⟨d1, d2, d3⟩ := keepD t
            obtain ⟨F5, R5, k5, _⟩ := R4.wipe own
            rw [hw] at R5
            have n5 : ¬ Own F5 D := fun z => d3 (k5 D z)
            exact ⟨G4, s', F5, acc, vs, R5, (lift t).sub fun a z => z.imp id (k5 a), d1, d2, n5, Reps.mono (t2.g.trans t.g) _ _ ra, by omega, hcomp⟩
          · cases hcomp
          · cases hcomp
        · -- the end
          have e : i = xs.length := by omega
          subst e
          refine .inl ⟨L.src.stop Gx Hx Rx.sub tx.g keepPr, ?_⟩
          rw [List.drop_length] at hcomp
          have hcomp : (Res.ok acc sx : Res (List PV)) = .ok ys s2 := hcomp
          injection hcomp with e1 e2
          subst e1
          subst e2
          have hl2 : sx.length = σ.length := by have := Rx.len; rwa [wipeS_len, L2.wipe_length] at this
          have hl1 : s1.length = σ.length := R1.len
          -- the comprehension's own names come back
          let Fb : Nat → Fp := fun j => if j ∈ own then none_ else Fx j
          have ownFb : ∀ a, Own Fb a → Own Fx a := fun a ⟨j, p⟩ => by
            by_cases hj : j ∈ own
            · have p : (if j ∈ own then none_ else Fx j) a := p
              rw [if_pos hj] at p; exact p.elim
            · have p : (if j ∈ own then none_ else Fx j) a := p
              rw [if_neg hj] at p; exact ⟨j, p⟩
          have FbIn : ∀ j a, Fb j a → j ∉ own ∧ Fx j a := fun j a p => by
            have p : (if j ∈ own then none_ else Fx j) a := p
            by_cases hj : j ∈ own
            · rw [if_pos hj] at p; exact p.elim
            · rw [if_neg hj] at p; exact ⟨hj, p⟩
          have Rb : RS g Gx Hx (back s1 own sx) σ Fb := by
            refine ⟨by rw [back_len, hl2], fun j hj => ?_, fun a b c p q => Rx.dis a b c (FbIn a c p).2 (FbIn b c q).2, fun j a p => Rx.fr j a (FbIn j a p).2, fun j a p => ?_, Rx.sub⟩
            · rw [back_len] at hj
              rw [back_get own sx j (by rw [hl2, hl1])]
              by_cases hjo : j ∈ own
              · rw [if_pos hjo]
                have hj1 : j < s1.length := by rw [hl1, ← hl2]; exact hj
                have hown : (getO s1 j).own = false := by
                  have := List.all_eq_true.mp hpl j hjo
                  simpa using this
                have e : Fb j = none_ := if_pos hjo
                rw [e]
                exact (R1.at_ j hj1).plain hown tx.g
              · rw [if_neg hjo]
                have e : Fb j = Fx j := if_neg hjo
                rw [e]
                have q := Rx.at_ j (by rw [wipeS_len]; exact hj)
                rw [wipeS_get own sx j hjo, wipe_get own σ j hjo] at q
                exact q
            · have := Rx.out j a (FbIn j a p).2
              rw [wipeS_len] at this
              rw [back_len]; exact this
          obtain ⟨F', R', k'⟩ := unlock_of L Rb tx (fun a z => .inr (ownFb a z)) fun j ov e => ⟨by
            obtain ⟨h1, _⟩ := L.at_ j ov e
            rw [back_len, hl2, ← hl1]; exact h1, rfl⟩
          refine p1 Gx Hx F' (fun a => a = D) (.ref D) ((tx.sup fun a z => .inr (L.sub a z)).sub' fun a z => ?_) R' (fun c e => ?_) ⟨D, vs, rfl, fun _ => Iff.rfl, hxD, ra⟩
          · rcases z with z | z
            · exact .inl (.inl z)
            · rcases k' a z with z | z
              · exact .inl (.inr (ownFb a z))
              · exact .inr (.inr (L.pr a z).1)
          · subst e
            refine ⟨gxD, fun z => ?_⟩
            rcases k' _ z with z | z
            · exact nD (ownFb _ z)
            · obtain ⟨u, hu⟩ := (L.pr _ z).2.2.2
              rw [hD] at hu; cases hu
end
end PF
set_option Elab.async false
set_option linter.all false
set_option maxRecDepth 100000
set_option maxHeartbeats 2000000
/-! PF, part h: enumerate over a tuple; sources of either kind; more tools. -/
namespace PySem
open Sem (wp)
open AutoSeq1 (wpAny_loadPart')
theorem pf_meets_enumT (l : Addr) (items : Array Value) :
    Meets (Builtin.«enumerate.__new__» ⟨[.type "enumerate", .ref l], []⟩) (fun _ R s => s.heap.IsTuple l items ∧
      R (.ok (.ret (.ref (s.heap.push { cls := .type "tuple_iterator", data := .fields #[.ref l, .int 0 0] }).objs.size)))
        { s with heap := (s.heap.push { cls := .type "tuple_iterator", data := .fields #[.ref l, .int 0 0] }).push { cls := .type "enumerate", data := .fields #[.none, .bool false, .ref s.heap.objs.size, rawInt 0, .none, .none] } }) :=
  .of_wp fun prog w A R s h => by
    obtain ⟨hp, g, d, tk, os⟩ := s; obtain ⟨hL, h⟩ := h
    have hsub := sub_enumerate
    have q1 : ∀ {A' : Around} {E : Value → Shared → Prop} {Q : Value → Shared → Prop}, Q (.ref hp.objs.size) ⟨(hp.push { cls := .type "tuple_iterator", data := .fields #[.ref l, .int 0 0] }), g, d, tk, os⟩ → wpAny (model prog w) A' (pyIter (.ref l)) Q E ⟨hp, g, d, tk, os⟩ :=
      fun q => wpAny_pyIter_tuple hL q
    wp_walk using q1
    refine wpAny_stack_any fun st => wpAny_pure ?_
    split
    · rename_i c _ _ _ _ _
      cases (c == Value.type "enumerate")
      · wp_walk using q1
        exact ⟨_, rfl, h⟩
      · wp_walk using q1
        exact ⟨_, rfl, h⟩
    · wp_walk using q1
      exact ⟨_, rfl, h⟩
section
variable {prog : Program} {w : World} {A : Around} {E : Value → Shared → Prop} {s : Shared}
theorem pf_call_enumT {l : Addr} {items : Array Value} {Q : Value → Shared → Prop} (hL : s.heap.IsTuple l items)
    (h : ∀ h', IsEnum h' (s.heap.objs.size + 1) s.heap.objs.size 0 .none → h'.IsTupleIter s.heap.objs.size l 0 → h'.objs.size = s.heap.objs.size + 2 →
      (∀ b o, s.heap.get? b = some o → h'.get? b = some o) → Q (.ref (s.heap.objs.size + 1)) { s with heap := h' }) :
    wpAny (model prog w) A (call (.type "enumerate") [.ref l]) Q E s := by
  refine callType_new F.called_enumerate (by decide) (F.typeCall_enumerate_1 _) (F.newCall_enumerate_1 _) (fun obj => F.args_object_init_2 obj _) F.entry_enumerate_new
    (pf_meets_enumT l items) ⟨hL, ?_⟩
  have hz : (s.heap.push { cls := .type "tuple_iterator", data := .fields #[.ref l, .int 0 0] }).objs.size = s.heap.objs.size + 1 := Heap.size_push ..
  show _ ∧ _
  rw [hz]
  have he : IsEnum ((s.heap.push { cls := .type "tuple_iterator", data := .fields #[.ref l, .int 0 0] }).push
      { cls := .type "enumerate", data := .fields #[.none, .bool false, .ref s.heap.objs.size, rawInt 0, .none, .none] }) (s.heap.objs.size + 1) s.heap.objs.size 0 .none := by
    have := Heap.get?_push_size (s.heap.push { cls := .type "tuple_iterator", data := .fields #[.ref l, .int 0 0] })
      (o := { cls := .type "enumerate", data := .fields #[.none, .bool false, .ref s.heap.objs.size, rawInt 0, .none, .none] }) rfl
    rw [hz] at this; exact this
  refine ⟨⟨_, he, rfl⟩, h _ he ⟨_, Heap.get?_push_of_some _ (Heap.get?_push_size _ rfl), rfl, rfl⟩ (by rw [Heap.size_push, hz]) fun b o x => Heap.get?_push_of_some _ (Heap.get?_push_of_some _ x)⟩
end
end PySem

namespace PF
open PySem PySem.Spec PyProof.Rows
open L2
/-- enumerate(tuple) -/
def IteT (K : PySem.W.Frag) (a : Addr) : It :=
  ⟨fun i H => ∃ (xs : List V) (x : V), SqT K H a xs ∧ xs[i]? = some x, fun i H v H' => ∃ T x, v = .ref T ∧ H T = none ∧ H' = upd H T (.tup [.int (i : Nat), x]) ∧ ∀ xs, SqT K H a xs → xs[i]? = some x, fun i H => ∃ xs : List V, SqT K H a xs ∧ xs.length = i⟩
theorem turn_enumT {P : Program} {w : World} {K : PySem.W.Frag} {elts : List Expr} {kk : Nat} {tpos : Pos} (a e it : Addr) :
    Turn P w K (.Tuple elts kk tpos) (IteT K a) [e, it] e (fun i h => (∃ old, IsEnum h e it ((i : Nat) : Int) old) ∧ h.IsTupleIter it a i ∧ e ≠ it ∧ a ≠ it ∧ a ≠ e) where
  mem := by simp
  obj := fun i h st b hb => by
    obtain ⟨⟨old, he⟩, ⟨o, ho, hc, hd⟩, _⟩ := st
    have e' : b = e ∨ b = it := by simpa using hb
    rcases e' with z | z
    · rw [z]; exact ⟨_, he, fun v q => nomatch q⟩
    · rw [z]; exact ⟨o, ho, fun v q => by rw [hd] at q; cases q⟩
  keep := fun i h h' st k => let ⟨⟨old, he⟩, hi, hne⟩ := st; ⟨⟨old, k e (by simp) _ he⟩, hi.at fun o q => k it (by simp) o q, hne⟩
  item := by
    intro X hP hw hK hc i pins s σ H E I hf st hg
    subst hP hw hK
    obtain ⟨⟨old, he⟩, hit, hne, hai, hae⟩ := st
    obtain ⟨xs, x, hq, hx⟩ := hg
    obtain ⟨its, rv, p, hz⟩ := I.tuple hq
    obtain ⟨u, hu, ru⟩ := rv.get hx
    have hel : e < s.heap.objs.size := Heap.lt_size he
    have hil : it < s.heap.objs.size := by obtain ⟨_, q, _⟩ := hit; exact Heap.lt_size q
    have D := PySem.Draws.tuple (prog := X.prog) (w := X.w) (A := X.A.in1) (show X.A.in1.handled = none from (I.ok.hd hc)) it a hai its.toArray
    have hlt : i < its.toArray.size := by
      have hl := (List.getElem?_eq_some_iff.mp hu).1
      simpa using hl
    refine wpAny_pyNext_enum_itemD D he ⟨hit, p⟩ hlt hne (by simp; exact ⟨hne, fun z => hae z.symm⟩) fun y h' tk hP ho hst hT hsz hk => ?_
    have hy : u = y := by
      have z : its.toArray[i]? = some y := hP
      have z2 : its.toArray[i]? = some u := by simpa using hu
      rw [z2] at z; exact Option.some.inj z
    subst hy
    refine ⟨_, rfl, wpAny_letOwnedTupleGo_enum (s := { s with heap := h', toks := tk + 1 }) ho fun h'' he' sb => ?_⟩
    have hT2 : h''.get? s.heap.objs.size = some { cls := .type "tuple", data := .seq #[.int i tk, u] } := (sb.2 _ (Nat.ne_of_gt hel)).trans hT
    have new : ObjOk X.prog X.w (upd H s.heap.objs.size (.tup [.int (i : Nat), x])) h'' s.heap.objs.size (.tup [.int (i : Nat), x]) :=
      ⟨by show 2 ≤ sizeLine; decide, [.int i tk, u], .cons ⟨_, rfl⟩ (.cons ru .nil), ⟨_, hT2, rfl, _, rfl⟩⟩
    have I1 : Inv X pins σ (upd H s.heap.objs.size (.tup [.int (i : Nat), x])) { s with heap := h'', toks := tk + 1 } :=
      I.turnedNew (ch := [e, it]) (fun b ob hb q => (sb.2 b (fun z => hb (by simp [z]))).trans (hk b ob (fun z => hb (by simp [z])) (fun z => hb (by simp [z])) q)) hf (Nat.le_refl _) new
    refine ⟨.ref s.heap.objs.size, _, I1, rfl, ⟨_, x, rfl, I.hok.fresh (Nat.le_refl _), rfl, fun ys hy => ?_⟩, ⟨⟨u, ?_⟩, hst.1.at fun o q => (sb.2 it (Ne.symm hne)).trans q, hne, hai, hae⟩, fun b hb => ?_⟩
    · rw [I.tuple_inj hy hq]; exact hx
    · have e1 : ((i + 1 : Nat) : Int) = (i : Int) + 1 := by omega
      rw [e1]; exact he'
    · have hb' : b < s.heap.objs.size := by
        have e' : b = e ∨ b = it := by simpa using hb
        rcases e' with z | z
        · rw [z]; exact hel
        · rw [z]; exact hil
      rw [upd_ne (Nat.ne_of_lt hb')]
      exact (hf b hb).1
  done := by
    intro X hP hw hK hc i pins s σ H E I hf st hg
    subst hP hw hK
    obtain ⟨⟨old, he⟩, hit, hne, hai, hae⟩ := st
    obtain ⟨xs, hq, hx⟩ := hg
    obtain ⟨its, rv, p, hz⟩ := I.tuple hq
    obtain ⟨f0, f1, f2, f3, f4, f5⟩ := hf it (by simp)
    have hl := rv.length
    have D := PySem.Draws.tuple (prog := X.prog) (w := X.w) (A := X.A.in1) (show X.A.in1.handled = none from (I.ok.hd hc)) it a hai its.toArray
    have hn : its.toArray.size = i := by simp; omega
    refine wpAny_pyNext_enum_endD D he (show _ ∧ _ from by rw [hn]; exact ⟨hit, p⟩) fun h' eb => ⟨rfl, I.turned (t' := s.toks) (fun b o hb q => eb b o hb q) f0 f1 f3 f4 f5⟩
  self := fun A i s Q E st h => let ⟨⟨_, he⟩, _⟩ := st; wpAny_pyIter_enum he h
def iEnumA (K : PySem.W.Frag) (ta : TA) : L2.TI := fun σ H R => ta σ H fun vs H1 => ∃ a xs, vs = [.ref a] ∧ ((SqL K H1 a xs ∧ R (Ite K a) H1) ∨ (SqT K H1 a xs ∧ R (IteT K a) H1))
theorem pi_enumA {X : Cx} {e : Expr} {ta : TA} {p pos tpos : Pos} {elts : List Expr} {kk : Nat} (hg : Gl X "enumerate") (hm : X.mg "enumerate" = none) (ha : PA X [e] ta) (hs : starEach [e] X.env = [(false, eval e X.env)]) :
    PI X (.Tuple elts kk tpos) (.Call (.Name "enumerate" p) [e] [] pos) (iEnumA X.K ta) := by
  refine ⟨fun pins s σ H R I h => ?_⟩
  refine Call_ (ld_blt I hg hm boot_enumerate (PyProof.Rows.callWith_type1 (thn (ha.run pos pins s σ H _ I h) fun us s1 ⟨vs, H1, I1, r1, q1⟩ => ?_) hs rfl))
  obtain ⟨a, xs, ex, hq⟩ := q1
  subst ex
  have fr : ∀ b ∈ [s1.heap.objs.size + 1, s1.heap.objs.size], FpOk X pins H1 b := fun b hb => by
    have e' : b = s1.heap.objs.size + 1 ∨ b = s1.heap.objs.size := by simpa using hb
    have hle : s1.heap.objs.size ≤ b := by
      rcases e' with z | z
      · rw [z]; exact Nat.le_add_right _ _
      · rw [z]; exact Nat.le_refl _
    exact I1.fpOk hle (I1.hok.fresh hle)
  cases r1 with
  | cons r rr =>
    cases rr
    cases r
    rcases hq with ⟨hq, q⟩ | ⟨hq, q⟩
    · obtain ⟨its, rv, p', hz⟩ := I1.list hq
      refine call_enumerate_list p'.isList fun h' he hit hsz hk => wpAny_pyIter_enum he ?_
      have I2 : Inv X pins σ H1 { s1 with heap := h' } := I1.kept (t' := s1.toks) hk
      exact ⟨s1.heap.objs.size + 1, [s1.heap.objs.size + 1, s1.heap.objs.size], _, _, H1, rfl, I2, turn_enum a (s1.heap.objs.size + 1) s1.heap.objs.size, ⟨⟨.none, he⟩, hit, Nat.succ_ne_self _⟩, fr, q⟩
    · obtain ⟨its, rv, p', hz⟩ := I1.tuple hq
      obtain ⟨o1, ho1, _⟩ := id p'
      have hlt : a < s1.heap.objs.size := Heap.lt_size ho1
      refine pf_call_enumT (show s1.heap.IsTuple a its.toArray from p') fun h' he hit hsz hk => wpAny_pyIter_enum he ?_
      have I2 : Inv X pins σ H1 { s1 with heap := h' } := I1.kept (t' := s1.toks) hk
      exact ⟨s1.heap.objs.size + 1, [s1.heap.objs.size + 1, s1.heap.objs.size], _, _, H1, rfl, I2, turn_enumT a (s1.heap.objs.size + 1) s1.heap.objs.size, ⟨⟨.none, he⟩, hit, Nat.succ_ne_self _, Nat.ne_of_lt hlt, Nat.ne_of_lt (Nat.lt_succ_of_lt hlt)⟩, fr, q⟩
/-- a list or a tuple, walked -/
def iSeq (K : PySem.W.Frag) (tl : TE) : L2.TI := fun σ H R => tl σ H fun x H1 => ∃ a xs, x = .ref a ∧ ((SqL K H1 a xs ∧ R (Itl K a) H1) ∨ (SqT K H1 a xs ∧ R (Itt K a) H1))
theorem pi_seq {X : Cx} {tg l : Expr} {tl : TE} (hl : PE X l tl) : PI X tg l (iSeq X.K tl) := by
  refine ⟨fun pins s σ H R I h => ?_⟩
  refine thn (hl.run pins s σ H _ I h) fun v s1 ⟨x, H1, I1, r1, q1⟩ => ?_
  obtain ⟨a, xs, e, hq⟩ := q1
  subst e
  cases r1
  have fr : ∀ b ∈ [s1.heap.objs.size], FpOk X pins H1 b := fun b hb => by
    have e : b = s1.heap.objs.size := by simpa using hb
    subst e
    exact I1.fpOk (Nat.le_refl _) (I1.hok.fresh (Nat.le_refl _))
  rcases hq with ⟨hq, q⟩ | ⟨hq, q⟩
  · obtain ⟨its, rv, p, hz⟩ := I1.list hq
    refine wpAny_pyIter_list p.isList ?_
    exact ⟨s1.heap.objs.size, [s1.heap.objs.size], _, _, H1, rfl, I1.kept (t' := s1.toks) fun b o e => Heap.get?_push_of_some _ e, turn_list a _, ⟨_, Heap.get?_push_size _ rfl, rfl, rfl⟩, fr, q⟩
  · obtain ⟨its, rv, p, hz⟩ := I1.tuple hq
    refine wpAny_pyIter_tuple (show s1.heap.IsTuple a its.toArray from p) ?_
    exact ⟨s1.heap.objs.size, [s1.heap.objs.size], _, _, H1, rfl, I1.kept (t' := s1.toks) fun b o e => Heap.get?_push_of_some _ e, turn_tuple a _, ⟨_, Heap.get?_push_size _ rfl, rfl, rfl⟩, fr, q⟩
theorem PI_imp {X : Cx} {tg e : Expr} {t t' : L2.TI} (h : PI X tg e t) (k : ∀ σ H R, t' σ H R → t σ H R) : PI X tg e t' := ⟨fun pins s σ H R I q => h.run pins s σ H R I (k _ _ _ q)⟩
end PF

namespace PF
open PySem PySem.Spec PyProof.Rows
open L2 (V Hp HO upd upd_same upd_ne Same SqL SqT WX PE PT PA PC OpR CallR IxR SlR MtR TruR VK)
section
variable {g : Gm} {W : WX} {σ : L2.St} {G H : Hp} {α β γ δ : Type} {Rl : RL α β} {Rl2 : RL γ δ} {s : S} {F : Nat → Fp} {X : L2.Cx} {e : Expr}
/-- what owns nothing -/
def Poor (Rl : RL α β) : Prop := ∀ σ s G H a b P, Rl σ s G H a b P → ∀ c, ¬ P c
theorem poor_none {P : Fp} (n : ∀ c, ¬ P c) : P = none_ := funext fun c => propext ⟨fun z => (n c z).elim, fun z => z.elim⟩
def Aft (g : Gm) (W : WX) (σ : L2.St) (Rl : RL α β) (Rl2 : RL γ δ) (Q : δ → Hp → Prop) (f : S → Res α) (k : α → S → Res γ) : β → Hp → Prop := fun b H1 => ∃ G1 s0 s1 F1 a, f s0 = .ok a s1 ∧ RS g G1 H1 s1 σ F1 ∧ Rl σ s1 G1 H1 a b none_ ∧ Post g W σ G1 H1 (Own F1) Rl2 Q (k a s1)
theorem T_bind {f : S → Res α} {k : α → S → Res γ} {Q : δ → Hp → Prop} (n : Poor Rl) (h : T g W Rl2 (fun s => (f s).bind k) σ H Q) : T g W Rl f σ H (Aft g W σ Rl Rl2 Q f k) := by
  obtain ⟨G, s, F, R, p⟩ := h
  refine ⟨G, s, F, R, ?_⟩
  have p : Post g W σ G H (Own F) Rl2 Q ((f s).bind k) := p
  cases hf : f s with
  | bad => rw [hf] at p; exact p
  | exc e s1 => rw [hf] at p; exact p
  | ok a s1 =>
    rw [hf] at p
    intro G' H' F' P b t R1 d q
    have e := poor_none (n _ _ _ _ _ _ _ q)
    subst e
    exact ⟨G', s, s1, F', a, hf, R1, q, (p : Post g W σ G H (Own F) Rl2 Q (k a s1)).stp t |>.sup fun c z => .inr z⟩
theorem poor_V : Poor (RlV g) := fun _ _ _ _ _ _ _ h => h.1
theorem poor_P : Poor (RlP g) := fun _ _ _ _ _ _ _ h => h.1
theorem poor_B : Poor RlB := fun _ _ _ _ _ _ _ h => h.1
theorem poor_Vs : Poor (RlVs g) := fun _ _ _ _ _ _ _ h => h.1
theorem poor_I : Poor RlI := fun _ _ _ _ _ _ _ h => h.1
theorem poor_P2 (h : Poor Rl) : Poor (RlP2 g Rl) := fun _ _ _ _ _ _ _ q => h _ _ _ _ _ _ _ q.2
def RlN : RL Int Int := fun _ _ _ _ b c P => (∀ a, ¬ P a) ∧ b = c
theorem poor_N : Poor RlN := fun _ _ _ _ _ _ _ h => h.1
theorem Post.intR {A : Fp} {r : Res PV} {Q : Int → Hp → Prop} (h : Post g W σ G H A RlN Q (intR r)) : Post g W σ G H A (RlV g) (fun x H1 => ∃ i, x = .int i ∧ Q i H1) r := by
  cases r with
  | ok v s1 =>
    cases v with
    | int i =>
      intro G' H' F' P x t R d q
      refine ⟨i, q.2, h G' H' F' P i t R d ⟨q.1, rfl⟩⟩
    | _ => exact (show False from h).elim
  | exc e s => exact h
  | bad => exact h
end
end PF
set_option Elab.async false
set_option linter.all false
set_option maxRecDepth 100000
set_option maxHeartbeats 2000000
/-! PF, part i: each form of expression. -/
namespace PF
open PySem PySem.Spec PyProof.Rows
open L2 (V Hp HO upd upd_same upd_ne Same SqL SqT WX PE PT PA PC OpR CallR IxR SlR MtR TruR VK)
section
variable {g : Gm} {gn : GN} {Γ : Env} {N : List Tx} {k : Nat} {sc : Scope} {W : WX} {X : L2.Cx} {σ : L2.St} {H G : Hp} {a b c : Ex} {l r t x y e : Expr} {p : Pos} {s : S} {F : Nat → Fp}
theorem look_name (C : Cxt g gn Γ N k sc W X) {i : Nat} (h : chk gn N sc (.var i) e = true) : PE X e (L2.tVar i) := by
  obtain ⟨x, p, rfl, h1, h2, h3⟩ := chk_var h
  obtain ⟨d1, d2⟩ := noDbg_ok h3
  exact L2.pe_var (by rw [C.hN]; exact isNm_ok h1) (by rw [C.hsc]; exact visB_ok h2) d1 d2
theorem c_pk (C : Cxt g gn Γ N k sc W X) (h : chk gn N sc a l = true) (ha : PE X l (T g W (RlO g) (ev Γ a))) : PE X l (tPk g W a (ev Γ a)) := by
  rcases var_or (g := g) (W := W) a with ⟨i, rfl⟩ | ⟨e1, _⟩
  · exact look_name C h
  · rw [e1]; exact PE_frz ha
theorem c_peek (C : Cxt g gn Γ N k sc W X) (h : chk gn N sc a l = true) (ha : PE X l (T g W (RlO g) (ev Γ a))) : PE X l (T g W (RlP g) (peek a (ev Γ a))) :=
  PE_imp (c_pk C h ha) fun _ _ _ q => tPk_of q
theorem c_var (C : Cxt g gn Γ N k sc W X) {i : Nat} (h : chk gn N sc (.var i) e = true) : PE X e (T g W (RlO g) (ev Γ (.var i))) := by
  refine PE_imp (look_name C h) fun σ H Q q => ?_
  obtain ⟨G, s, F, R, p⟩ := q
  have p : Post g W σ G H (Own F) (RlO g) Q ((Res.opt (getV s i) s).bind fun v s' => .ok (.sh v) (if (getO s i).own then s'.set i (.sh v) else s')) := p
  cases hv : getV s i with
  | none => rw [hv] at p; exact p.elim
  | some v =>
    rw [hv] at p
    obtain ⟨G', F', x, t, R', ex, r⟩ := R.thaw hv
    exact ⟨x, ex, p G' H F' none_ x (t.sub fun c z => z.elim (fun z => z.elim) id) R' (fun _ z => z.elim) ⟨fun _ z => z, x, rfl, r⟩⟩
theorem here_sh {Q : VK} {v : PV} {x : V} (R : RS g G H s σ F) (h : Post g W σ G H (Own F) (RlO g) Q (.ok (.sh v) s)) (r : Rep g G v x) : Q x H :=
  Post.here R h ⟨fun _ z => z, x, rfl, r⟩
theorem c_glb (C : Cxt g gn Γ N k sc W X) {i : Nat} (h : chk gn N sc (.glb i) e = true) : PE X e (T g W (RlO g) (ev Γ (.glb i))) := by
  obtain ⟨x, p, rfl, h1, h2⟩ := chk_glb h
  obtain ⟨t, e1, rfl⟩ := isO_ok h1
  obtain ⟨gl, db⟩ := glB_ok C h2
  cases hv : Γ.glb i with
  | none =>
    refine ⟨fun pins s σ H Q I q => ?_⟩
    obtain ⟨G, s, F, R, p⟩ := q
    have p : Post g W σ G H (Own F) (RlO g) Q ((Res.opt (Γ.glb i) s).bind fun v s' => .ok (.sh v) s') := p
    rw [hv] at p
    exact p.elim
  | some v =>
    obtain ⟨u, x, hm, rv, hr⟩ := C.glb i t v e1 hv
    refine PE_imp (L2.pe_glob (v := x) gl hm rv db) fun σ H Q q => ?_
    obtain ⟨G, s, F, R, p⟩ := q
    have p : Post g W σ G H (Own F) (RlO g) Q ((Res.opt (Γ.glb i) s).bind fun v s' => .ok (.sh v) s') := p
    rw [hv] at p
    exact here_sh R p (hr G)
theorem T_mono {α β : Type} {Rl : RL α β} {f : S → Res α} {Q Q' : β → Hp → Prop} (h : T g W Rl f σ H Q) (k : ∀ b H, Q b H → Q' b H) : T g W Rl f σ H Q' := by
  obtain ⟨G, s, F, R, p⟩ := h
  exact ⟨G, s, F, R, p.imp k⟩
theorem tPk_mono {f : S → Res OV} {Q Q' : VK} (h : tPk g W a f σ H Q) (k : ∀ b H, Q b H → Q' b H) : tPk g W a f σ H Q' := by
  rcases var_or (g := g) (W := W) a with ⟨i, rfl⟩ | ⟨e1, _⟩
  · obtain ⟨v, e, q⟩ := h
    exact ⟨v, e, k _ _ q⟩
  · rw [e1] at h ⊢
    exact T_mono h k
/-- two values, then what is done with them -/
theorem late2 {α β γ δ : Type} {fa : S → Res OV} {kb : S → Res α} {Rl : RL α β} {Rl2 : RL γ δ} {kk : PV × α → S → Res γ} {Q : δ → Hp → Prop} {Q2 : V → β → Hp → Prop} (n : Poor Rl) (q : T g W Rl2 (fun s => (late a fa kb s).bind kk) σ H Q)
    (h : ∀ x y H2 G1 s1 F1 v w, RS g G1 H2 s1 σ F1 → PkR g G1 H2 v x → Rl σ s1 G1 H2 w y none_ → Post g W σ G1 H2 (Own F1) Rl2 Q (kk (v, w) s1) → Q2 x y H2) : tPk g W a fa σ H fun x H1 => T g W Rl kb σ H1 fun y H2 => Q2 x y H2 := by
  refine tPk_mono (late_of (T_bind (poor_P2 (g := g) n) q)) fun x H1 q => T_mono q fun y H2 q => ?_
  obtain ⟨G1, s0, s1, F1, ⟨v, w⟩, _, R1, ⟨h1, h2⟩, p⟩ := q
  exact h x y H2 G1 s1 F1 v w R1 h1 h2 p
theorem T_bind2 {α β γ δ : Type} {f : S → Res α} {Rl : RL α β} {Rl2 : RL γ δ} {kk : α → S → Res γ} {Q : δ → Hp → Prop} {Q2 : β → Hp → Prop} (n : Poor Rl) (q : T g W Rl2 (fun s => (f s).bind kk) σ H Q)
    (h : ∀ y H2 G1 s1 F1 w, RS g G1 H2 s1 σ F1 → Rl σ s1 G1 H2 w y none_ → Post g W σ G1 H2 (Own F1) Rl2 Q (kk w s1) → Q2 y H2) : T g W Rl f σ H Q2 := by
  refine T_mono (T_bind n q) fun y H2 q => ?_
  obtain ⟨G1, s0, s1, F1, w, _, R1, h1, p⟩ := q
  exact h y H2 G1 s1 F1 w R1 h1 p
theorem here_b {b : Bool} {Q : Bool → Hp → Prop} (R : RS g G H s σ F) (h : Post g W σ G H (Own F) RlB Q (.ok b s)) : Q b H := Post.here R h ⟨fun _ z => z, rfl⟩
theorem c_bin (C : Cxt g gn Γ N k sc W X) {o : BOp} {op : Operator} (ho : opB o op = true) (ca : chk gn N sc a l = true) (cb : chk gn N sc b r = true) (ha : PE X l (T g W (RlO g) (ev Γ a))) (hb : PE X r (T g W (RlO g) (ev Γ b))) :
    PE X (.BinOp l op r p) (T g W (RlO g) (ev Γ (.bin o a b))) := by
  refine PE_imp (L2.pe_op (op_bin C.hK ho) (c_pk C ca ha) (c_peek C cb hb)) fun σ H Q q => ?_
  have q : T g W (RlO g) (fun s => (late a (ev Γ a) (peek b (ev Γ b)) s).bind fun p s' => Res.opt (binop o p.1 p.2) s') σ H Q := q
  refine late2 poor_P q fun x y H2 G1 s1 F1 v w R1 hv hw p => ?_
  obtain ⟨ov, e, p⟩ := Post.opt p
  exact ⟨G1, v, w, ov, R1.sub, hv, hw.2, e, p.out R1⟩
theorem c_cmp (C : Cxt g gn Γ N k sc W X) {o : COp} {op : CmpOp} (ho : opC o op = true) (ca : chk gn N sc a l = true) (cb : chk gn N sc b r = true) (ha : PE X l (T g W (RlO g) (ev Γ a))) (hb : PE X r (T g W (RlO g) (ev Γ b))) :
    PE X (.Compare l [op] [r] p) (T g W (RlO g) (ev Γ (.cmp o a b))) := by
  have hm : behindInMarks op r = false := L2.nomark r (by intro z; subst z; cases o <;> cases ho) (by intro z; subst z; cases o <;> cases ho)
  refine PE_imp (L2.pe_cmpR (op_cmp C.hK C.room.units ho) (c_pk C ca ha) (c_peek C cb hb) hm) fun σ H Q q => ?_
  have q : T g W (RlO g) (fun s => (late a (ev Γ a) (peek b (ev Γ b)) s).bind fun p s' => boolR (Res.opt (cmpop o p.1 p.2) s')) σ H Q := q
  refine late2 poor_P q fun x y H2 G1 s1 F1 v w R1 hv hw p => ?_
  obtain ⟨ov, e, p⟩ := Post.opt p.boolR
  exact ⟨G1, v, w, ov, R1.sub, hv, hw.2, e, here_b R1 p⟩
theorem t_cmp (C : Cxt g gn Γ N k sc W X) {o : COp} {op : CmpOp} (ho : opC o op = true) (ca : chk gn N sc a l = true) (cb : chk gn N sc b r = true) (ha : PE X l (T g W (RlO g) (ev Γ a))) (hb : PE X r (T g W (RlO g) (ev Γ b))) :
    PT X (.Compare l [op] [r] p) (T g W RlB (te Γ (.cmp o a b))) := by
  have hm : behindInMarks op r = false := L2.nomark r (by intro z; subst z; cases o <;> cases ho) (by intro z; subst z; cases o <;> cases ho)
  refine PT_imp (L2.pt_cmpR (op_cmp C.hK C.room.units ho) (c_pk C ca ha) (c_peek C cb hb) hm) fun σ H Q q => ?_
  have q : T g W RlB (fun s => (late a (ev Γ a) (peek b (ev Γ b)) s).bind fun p s' => Res.opt (cmpop o p.1 p.2) s') σ H Q := q
  refine late2 poor_P q fun x y H2 G1 s1 F1 v w R1 hv hw p => ?_
  obtain ⟨ov, e, p⟩ := Post.opt p
  exact ⟨G1, v, w, ov, R1.sub, hv, hw.2, e, _, rfl, here_b R1 p⟩
theorem c_inn (C : Cxt g gn Γ N k sc W X) {ng : Bool} (hm : behindInMarks (if ng then .NotIn else .In) r = false) (ca : chk gn N sc a l = true) (cb : chk gn N sc b r = true) (ha : PE X l (T g W (RlO g) (ev Γ a))) (hb : PE X r (T g W (RlO g) (ev Γ b))) :
    PE X (.Compare l [if ng then .NotIn else .In] [r] p) (T g W (RlO g) (ev Γ (.inn ng a b))) := by
  refine PE_imp (L2.pe_cmpR (op_inn C.hK) (c_pk C ca ha) (c_peek C cb hb) hm) fun σ H Q q => ?_
  have q : T g W (RlO g) (fun s => (late a (ev Γ a) (peek b (ev Γ b)) s).bind fun p s' => boolR ((Res.opt (inop p.1 p.2) s').bind fun k s'' => .ok (k != ng) s'')) σ H Q := q
  refine late2 poor_P q fun x y H2 G1 s1 F1 v w R1 hv hw p => ?_
  have p := p.boolR
  cases e : inop v w with
  | none => rw [e] at p; exact p.elim
  | some ov =>
    rw [e] at p
    exact ⟨G1, v, w, ov, R1.sub, hv, hw.2, e, here_b R1 p⟩
theorem t_inn (C : Cxt g gn Γ N k sc W X) {ng : Bool} (hm : behindInMarks (if ng then .NotIn else .In) r = false) (ca : chk gn N sc a l = true) (cb : chk gn N sc b r = true) (ha : PE X l (T g W (RlO g) (ev Γ a))) (hb : PE X r (T g W (RlO g) (ev Γ b))) :
    PT X (.Compare l [if ng then .NotIn else .In] [r] p) (T g W RlB (te Γ (.inn ng a b))) := by
  refine PT_imp (L2.pt_cmpR (op_inn C.hK) (c_pk C ca ha) (c_peek C cb hb) hm) fun σ H Q q => ?_
  have q : T g W RlB (fun s => (late a (ev Γ a) (peek b (ev Γ b)) s).bind fun p s' => (Res.opt (inop p.1 p.2) s').bind fun k s'' => .ok (k != ng) s'') σ H Q := q
  refine late2 poor_P q fun x y H2 G1 s1 F1 v w R1 hv hw p => ?_
  cases e : inop v w with
  | none => rw [e] at p; exact p.elim
  | some ov =>
    rw [e] at p
    exact ⟨G1, v, w, ov, R1.sub, hv, hw.2, e, _, rfl, here_b R1 p⟩
theorem c_neg (C : Cxt g gn Γ N k sc W X) (ha : PE X l (T g W (RlO g) (ev Γ a))) : PE X (.UnaryOp .USub l p) (T g W (RlO g) (ev Γ (.neg a))) := by
  refine PE_imp (L2.pe_un L2.un_neg (PE_frz ha)) fun σ H Q q => ?_
  have q : T g W (RlO g) (fun s => (intR (frzR (ev Γ a s))).bind fun i s' => .ok (.sh (.int (-i))) s') σ H Q := q
  have q := T_bind poor_N q
  obtain ⟨G, s, F, R, p⟩ := q
  refine ⟨G, s, F, R, p.intR.imp fun x H1 q => ?_⟩
  obtain ⟨i, rfl, G1, s0, s1, F1, j, _, R1, ⟨_, ej⟩, p⟩ := q
  subst ej
  exact ⟨_, rfl, here_sh R1 p rep_int⟩
theorem pk_int {v : PV} {x : V} {i : Int} (h : PkR g G H v x) (e : v = .int i) : x = .int i := by subst e; exact h
def isNon : PV → Bool
  | .non => true
  | _ => false
theorem pk_non {v : PV} {x : V} (h : PkR g G H v x) : decide (x = V.non) = isNon v := by
  cases v with
  | non => cases (show x = _ from h); rfl
  | bl b => cases (show x = _ from h); rfl
  | int b => cases (show x = _ from h); rfl
  | str b => cases (show x = _ from h); rfl
  | tup _ => obtain ⟨a, vs, rfl, _⟩ := h; rfl
  | lst _ => obtain ⟨a, vs, rfl, _⟩ := h; rfl
  | frz _ => obtain ⟨a, vs, rfl, _⟩ := h; rfl
  | ins _ _ => obtain ⟨kn, a, dx, vs, rfl, _⟩ := h; rfl
  | dct _ _ => obtain ⟨a, kvs, rfl, _⟩ := h; rfl
theorem isN_eq (ng : Bool) (v : PV) : (match v with | .non => !ng | _ => ng) = (isNon v != ng) := by cases ng <;> cases v <;> rfl
theorem c_isN (C : Cxt g gn Γ N k sc W X) {ng : Bool} {n : Nat} {p2 : Pos} (ca : chk gn N sc a l = true) (ha : PE X l (T g W (RlO g) (ev Γ a))) :
    PE X (.Compare l [if ng then .IsNot else .Is] [.Constant .none n p2] p) (T g W (RlO g) (ev Γ (.isN ng a))) := by
  have fin : ∀ {σ H Q}, T g W (RlO g) (ev Γ (.isN ng a)) σ H Q → T g W (RlP g) (peek a (ev Γ a)) σ H fun x H1 => Q (.bl (decide (x = .non) != ng)) H1 := by
    intro σ H Q q
    have q : T g W (RlO g) (fun s => (peek a (ev Γ a) s).bind fun v s' => .ok (.sh (.bl (match v with | .non => !ng | _ => ng))) s') σ H Q := q
    refine T_bind2 poor_P q fun x H2 G1 s1 F1 v R1 hv p => ?_
    rw [pk_non hv.2]
    have p := here_sh R1 p rep_bl
    rw [isN_eq] at p
    exact p
  cases ng with
  | false => exact PE_imp (L2.pe_cmp (L2.pc_isN (c_peek C ca ha))) fun σ H Q q => T_mono (fin q) fun x H1 q => by simpa using q
  | true => exact PE_imp (L2.pe_cmp (L2.pc_notN (c_peek C ca ha))) fun σ H Q q => T_mono (fin q) fun x H1 q => by simpa using q
theorem t_isN (C : Cxt g gn Γ N k sc W X) {ng : Bool} {n : Nat} {p2 : Pos} (ca : chk gn N sc a l = true) (ha : PE X l (T g W (RlO g) (ev Γ a))) :
    PT X (.Compare l [if ng then .IsNot else .Is] [.Constant .none n p2] p) (T g W RlB (te Γ (.isN ng a))) := by
  have fin : ∀ {σ H} {Q : Bool → Hp → Prop}, T g W RlB (te Γ (.isN ng a)) σ H Q → T g W (RlP g) (peek a (ev Γ a)) σ H fun x H1 => Q (decide (x = .non) != ng) H1 := by
    intro σ H Q q
    have q : T g W RlB (fun s => (peek a (ev Γ a) s).bind fun v s' => .ok (match v with | .non => !ng | _ => ng) s') σ H Q := q
    refine T_bind2 poor_P q fun x H2 G1 s1 F1 v R1 hv p => ?_
    rw [pk_non hv.2]
    have p := here_b R1 p
    rw [isN_eq] at p
    exact p
  cases ng with
  | false => exact PT_imp (L2.pt_cmp (L2.pc_isN (c_peek C ca ha))) fun σ H Q q => T_mono (fin q) fun x H1 q => ⟨_, rfl, by simpa using q⟩
  | true => exact PT_imp (L2.pt_cmp (L2.pc_notN (c_peek C ca ha))) fun σ H Q q => T_mono (fin q) fun x H1 q => ⟨_, rfl, by simpa using q⟩
theorem emp_eq {v : List PV} {w : List V} (h : Reps g G v w) : (!v.isEmpty) = !w.isEmpty := by
  cases v with
  | nil => cases (show w = [] from h); rfl
  | cons a r => obtain ⟨x, y, rfl, _⟩ := h; rfl
theorem tru_of {K : PySem.W.Frag} (hK : K = g.K) (m : Same G H) {v : PV} {x : V} {q : Bool} (h : PkR g G H v x) (e : truth v = some q) : L2.TruV K x H q := by
  cases v with
  | non => cases (show x = _ from h); cases e; rfl
  | bl b => cases (show x = _ from h); cases e; rfl
  | int b => cases (show x = _ from h); cases e; rfl
  | str b =>
    cases (show x = _ from h)
    have e : (if b.length ≤ 16777216 then some (!b.isEmpty) else none) = some q := e
    split at e
    · rename_i hl
      cases e
      refine ⟨by rw [mkS_len, sizeLine_eq]; exact hl, ?_⟩
      rw [mkS_len]
      cases b with
      | nil => rfl
      | cons z zs =>
        show true = _
        symm
        rw [bne_iff_ne]
        show ((zs.length + 1 : Nat) : Int) ≠ 0
        omega
    · cases e
  | tup _ =>
    obtain ⟨a, vs, rfl, h1, r⟩ := h
    cases e
    exact .inr (.inl ⟨vs, by rw [hK]; exact sqT_mono m h1, emp_eq r⟩)
  | lst _ =>
    obtain ⟨a, vs, rfl, h1, r⟩ := h
    cases e
    exact .inl ⟨vs, .inl (.inl h1), emp_eq r⟩
  | frz _ =>
    obtain ⟨a, vs, rfl, h1, r⟩ := h
    cases e
    exact .inl ⟨vs, by rw [hK]; exact m.seq h1, emp_eq r⟩
  | ins _ _ => cases e
  | dct _ _ => cases e
theorem c_not (C : Cxt g gn Γ N k sc W X) (ca : chk gn N sc a l = true) (ha : PE X l (T g W (RlO g) (ev Γ a))) : PE X (.UnaryOp .Not l p) (T g W (RlO g) (ev Γ (.not a))) := by
  refine PE_imp (L2.pe_notT (c_peek C ca ha)) fun σ H Q q => ?_
  have q : T g W (RlO g) (fun s => (peek a (ev Γ a) s).bind fun v s' => (Res.opt (truth v) s').bind fun k s1 => .ok (.sh (.bl (!k))) s1) σ H Q := q
  refine T_bind2 poor_P q fun x H2 G1 s1 F1 v R1 hv p => ?_
  cases e : truth v with
  | none => rw [e] at p; exact p.elim
  | some q =>
    rw [e] at p
    exact ⟨q, tru_of C.hK R1.sub hv.2 e, here_sh R1 p rep_bl⟩
theorem RlV_of {v : PV} {x : V} (R : RS g G H s σ F) (h : Rep g G v x) : PkR g G H v x := PkR.of R.sub h
theorem c_and (C : Cxt g gn Γ N k sc W X) {rest : List Expr} (ha : PE X l (T g W (RlO g) (ev Γ a))) (hb : PE X (.BoolOp .And (r :: rest) p) (T g W (RlO g) (ev Γ b))) : PE X (.BoolOp .And (l :: r :: rest) p) (T g W (RlO g) (ev Γ (.and a b))) := by
  refine PE_imp (L2.pe_andT (PE_frz ha) hb) fun σ H Q q => ?_
  have q : T g W (RlO g) (fun s => (frzR (ev Γ a s)).bind fun v s' => (Res.opt (truth v) s').bind fun k s'' => if k then ev Γ b s'' else .ok (.sh v) s'') σ H Q := q
  refine T_bind2 poor_V q fun x H2 G1 s1 F1 v R1 hv p => ?_
  cases e : truth v with
  | none => rw [e] at p; exact p.elim
  | some q =>
    rw [e] at p
    have p : Post g W σ G1 H2 (Own F1) (RlO g) Q (if q = true then ev Γ b s1 else .ok (.sh v) s1) := p
    refine ⟨q, tru_of C.hK R1.sub (PkR.of R1.sub hv.2) e, ?_⟩
    cases q with
    | true => exact ⟨G1, s1, F1, R1, p⟩
    | false => exact here_sh R1 p hv.2
theorem c_or (C : Cxt g gn Γ N k sc W X) {rest : List Expr} (ha : PE X l (T g W (RlO g) (ev Γ a))) (hb : PE X (.BoolOp .Or (r :: rest) p) (T g W (RlO g) (ev Γ b))) : PE X (.BoolOp .Or (l :: r :: rest) p) (T g W (RlO g) (ev Γ (.or a b))) := by
  refine PE_imp (L2.pe_orT (PE_frz ha) hb) fun σ H Q q => ?_
  have q : T g W (RlO g) (fun s => (frzR (ev Γ a s)).bind fun v s' => (Res.opt (truth v) s').bind fun k s'' => if k then .ok (.sh v) s'' else ev Γ b s'') σ H Q := q
  refine T_bind2 poor_V q fun x H2 G1 s1 F1 v R1 hv p => ?_
  cases e : truth v with
  | none => rw [e] at p; exact p.elim
  | some q =>
    rw [e] at p
    have p : Post g W σ G1 H2 (Own F1) (RlO g) Q (if q = true then .ok (.sh v) s1 else ev Γ b s1) := p
    refine ⟨q, tru_of C.hK R1.sub (PkR.of R1.sub hv.2) e, ?_⟩
    cases q with
    | false => exact ⟨G1, s1, F1, R1, p⟩
    | true => exact here_sh R1 p hv.2
theorem c_ite (hc : PT X t (T g W RlB (te Γ c))) (ha : PE X l (T g W (RlO g) (ev Γ a))) (hb : PE X r (T g W (RlO g) (ev Γ b))) : PE X (.IfExp t l r p) (T g W (RlO g) (ev Γ (.ite c a b))) := by
  refine PE_imp (L2.pe_ifExp hc ha hb) fun σ H Q q => ?_
  have q : T g W (RlO g) (fun s => (te Γ c s).bind fun k s' => if k then ev Γ a s' else ev Γ b s') σ H Q := q
  refine T_bind2 poor_B q fun x H2 G1 s1 F1 v R1 hv p => ?_
  rw [← hv.2]
  cases v with
  | true => exact ⟨G1, s1, F1, R1, p⟩
  | false => exact ⟨G1, s1, F1, R1, p⟩
theorem t_ite (hc : PT X t (T g W RlB (te Γ c))) (ha : PT X l (T g W RlB (te Γ a))) (hb : PT X r (T g W RlB (te Γ b))) : PT X (.IfExp t l r p) (T g W RlB (te Γ (.ite c a b))) := by
  refine ⟨fun pins s σ H Q I q => ?_⟩
  have q : T g W RlB (fun s => (te Γ c s).bind fun k s' => if k then te Γ a s' else te Γ b s') σ H Q := q
  refine isTrue_IfExp (L2.thn (hc.run pins s σ H _ I (T_bind poor_B q)) fun d s1 ⟨H1, I1, q1⟩ => ?_)
  obtain ⟨G1, s0, s1, F1, v, _, R1, hv, p⟩ := q1
  have ed := hv.2
  subst ed
  cases v with
  | true => exact ha.run pins _ σ H1 Q I1 ⟨G1, s1, F1, R1, p⟩
  | false => exact hb.run pins _ σ H1 Q I1 ⟨G1, s1, F1, R1, p⟩
theorem t_and {rest : List Expr} (ha : PT X l (T g W RlB (te Γ a))) (hb : L2.PW X (.BoolOp .And (r :: rest) p) (T g W RlB (te Γ b))) : L2.PW X (.BoolOp .And (l :: r :: rest) p) (T g W RlB (te Γ (.and a b))) := by
  refine ⟨fun wh pins s σ H Q I q => (L2.pw_and ha hb).run wh pins s σ H Q I ?_⟩
  have q : T g W RlB (fun s => (te Γ a s).bind fun k s' => if k then te Γ b s' else .ok false s') σ H Q := q
  refine T_bind2 poor_B q fun x H2 G1 s1 F1 v R1 hv p => ?_
  rw [← hv.2]
  cases v with
  | true => exact ⟨G1, s1, F1, R1, p⟩
  | false => exact here_b R1 p
theorem t_or {rest : List Expr} (ha : PT X l (T g W RlB (te Γ a))) (hb : L2.PW X (.BoolOp .Or (r :: rest) p) (T g W RlB (te Γ b))) : L2.PW X (.BoolOp .Or (l :: r :: rest) p) (T g W RlB (te Γ (.or a b))) := by
  refine ⟨fun wh pins s σ H Q I q => (L2.pw_or ha hb).run wh pins s σ H Q I ?_⟩
  have q : T g W RlB (fun s => (te Γ a s).bind fun k s' => if k then .ok true s' else te Γ b s') σ H Q := q
  refine T_bind2 poor_B q fun x H2 G1 s1 F1 v R1 hv p => ?_
  rw [← hv.2]
  cases v with
  | false => exact ⟨G1, s1, F1, R1, p⟩
  | true => exact here_b R1 p
theorem t_not (ha : PT X l (T g W RlB (te Γ a))) : PT X (.UnaryOp .Not l p) (T g W RlB (te Γ (.not a))) := by
  refine PT_imp (L2.pt_not ha) fun σ H Q q => ?_
  have q : T g W RlB (fun s => (te Γ a s).bind fun k s' => .ok (!k) s') σ H Q := q
  refine T_bind2 poor_B q fun x H2 G1 s1 F1 v R1 hv p => ?_
  rw [← hv.2]
  exact here_b R1 p
theorem c_ix (C : Cxt g gn Γ N k sc W X) (ca : chk gn N sc a l = true) (cb : chk gn N sc b r = true) (ha : PE X l (T g W (RlO g) (ev Γ a))) (hb : PE X r (T g W (RlO g) (ev Γ b))) :
    PE X (.Subscript l r p) (T g W (RlO g) (ev Γ (.ix a b))) := by
  refine PE_imp (L2.pe_ix (ix_ok C.hK) (c_pk C ca ha) (PE_frz hb) (plainIx (chk_plain cb).2)) fun σ H Q q => ?_
  have q : T g W (RlO g) (fun s => (late a (ev Γ a) (fun s' => frzR (ev Γ b s')) s).bind fun p s' => valR (Res.opt (index p.1 p.2) s')) σ H Q := q
  refine late2 poor_V q fun x y H2 G1 s1 F1 v w R1 hv hw p => ?_
  obtain ⟨z, e, p⟩ := Post.opt p.valR
  exact ⟨G1, v, w, z, R1.sub, hv, hw.2, e, fun u ru => Post.here R1 p ⟨fun _ z => z, ru⟩⟩
theorem t_ix (C : Cxt g gn Γ N k sc W X) (ca : chk gn N sc a l = true) (cb : chk gn N sc b r = true) (ha : PE X l (T g W (RlO g) (ev Γ a))) (hb : PE X r (T g W (RlO g) (ev Γ b))) :
    PT X (.Subscript l r p) (T g W RlB (te Γ (.ix a b))) := by
  refine PT_imp (L2.pt_truth (L2.pe_ix (ix_ok C.hK) (c_pk C ca ha) (PE_frz hb) (plainIx (chk_plain cb).2)) fun _ => rfl) fun σ H Q q => ?_
  have q : T g W RlB (fun s => (late a (ev Γ a) (fun s' => frzR (ev Γ b s')) s).bind fun p s' => (Res.opt (index p.1 p.2) s').bind fun v s1 => Res.opt (truth v) s1) σ H Q := q
  refine late2 poor_V q fun x y H2 G1 s1 F1 v w R1 hv hw p => ?_
  cases e : index v w with
  | none => rw [show index (v, w).1 (v, w).2 = none from e] at p; exact p.elim
  | some z =>
    rw [show index (v, w).1 (v, w).2 = some z from e] at p
    obtain ⟨q, e2, p⟩ := Post.opt (o := truth z) (s := s1) p
    exact ⟨G1, v, w, z, R1.sub, hv, hw.2, e, fun u ru => ⟨q, tru_of C.hK R1.sub (PkR.of R1.sub ru) e2, here_b R1 p⟩⟩
theorem c_sl (C : Cxt g gn Γ N k sc W X) {lo hi : Opt} {lo' hi' : Option Expr} {p2 : Pos} (ca : chk gn N sc a l = true) (ha : PE X l (T g W (RlO g) (ev Γ a))) (hl : L2.PO X lo' (T g W RlI (evO Γ lo))) (hh : L2.PO X hi' (T g W RlI (evO Γ hi))) :
    PE X (.Subscript l (.Slice lo' hi' none p2) p) (T g W (RlO g) (ev Γ (.sl a lo hi))) := by
  refine PE_imp (L2.pe_slice (sl_ok C.hK) (c_pk C ca ha) hl hh) fun σ H Q q => ?_
  have q : T g W (RlO g) (fun s => (late a (ev Γ a) (fun s' => (evO Γ lo s').bind fun i s1 => (evO Γ hi s1).bind fun j s2 => .ok (i, j) s2) s).bind fun p s' => Res.opt (slice p.1 p.2.1 p.2.2) s') σ H Q := q
  let RlII : RL (Option Int × Option Int) (Option Int × Option Int) := fun _ _ _ _ b c P => (∀ a, ¬ P a) ∧ b = c
  have n : Poor RlII := fun _ _ _ _ _ _ _ h => h.1
  refine tPk_mono (late2 (Rl := RlII) (Q2 := fun x y H2 => rSll g x y.1 y.2 H2 Q) n q fun x y H2 G1 s1 F1 v w R1 hv hw p => ?_) fun x H1 q => ?_
  · cases hw.2
    obtain ⟨ov, e, p⟩ := Post.opt p
    exact ⟨G1, v, ov, R1.sub, hv, e, p.out R1⟩
  · refine T_bind2 poor_I q fun i H2 G1 s1 F1 w R1 hw p => ?_
    cases hw.2
    refine T_bind2 (f := evO Γ hi) (kk := fun j s2 => .ok (i, j) s2) poor_I ⟨G1, s1, F1, R1, p⟩ fun j H2 G1 s1 F1 w R1 hw p => ?_
    cases hw.2
    exact Post.here (b := (i, j)) R1 p ⟨fun _ z => z, rfl⟩
theorem c_rev (C : Cxt g gn Γ N k sc W X) {n : Nat} {p1 p2 p3 : Pos} (ca : chk gn N sc a l = true) (ha : PE X l (T g W (RlO g) (ev Γ a))) :
    PE X (.Subscript l (.Slice none none (some (.UnaryOp .USub (.Constant (.int 1) n p1) p2)) p3) p) (T g W (RlO g) (ev Γ (.rev a))) := by
  refine PE_imp (pe_back (c_peek C ca ha)) fun σ H Q q => ?_
  have q : T g W (RlO g) (fun s => (peek a (ev Γ a) s).bind fun v s' => Res.opt (reversed v) s') σ H Q := q
  refine T_bind2 poor_P q fun x H2 G1 s1 F1 v R1 hv p => ?_
  obtain ⟨ov, e, p⟩ := Post.opt p
  obtain ⟨b, vs, xs, rfl, r, h⟩ := rev_some R1.sub hv.2 e
  refine ⟨b, vs, rfl, ?_⟩
  rcases h with ⟨h1, rfl⟩ | ⟨h1, rfl⟩
  · exact .inl ⟨by rw [C.hK]; exact h1, fun z n => (p.out R1).lst R1.sub r.reverse n⟩
  · exact .inr ⟨by rw [C.hK]; exact h1, fun z n => (p.out R1).tup R1.sub r.reverse n⟩
end
end PF
set_option Elab.async false
set_option linter.all false
set_option maxRecDepth 100000
set_option maxHeartbeats 2000000
/-! PF, part j: each form of expression, continued; sources. -/
namespace PF
open PySem PySem.Spec PyProof.Rows
open L2 (V Hp HO upd upd_same upd_ne Same SqL SqT WX PE PT PA PC OpR CallR IxR SlR MtR TruR VK)
section
variable {g : Gm} {gn : GN} {Γ : Env} {N : List Tx} {k : Nat} {sc : Scope} {W : WX} {X : L2.Cx} {σ : L2.St} {H G : Hp} {a b c : Ex} {l r t x y e : Expr} {p : Pos} {s : S} {F : Nat → Fp} {es : Exs} {ls : List Expr}
theorem P_bind {α β γ δ : Type} {f : S → Res α} {Rl : RL α β} {Rl2 : RL γ δ} {kk : α → S → Res γ} {Q : δ → Hp → Prop} {Q2 : β → Hp → Prop} (n : Poor Rl) (R : RS g G H s σ F) (p : Post g W σ G H (Own F) Rl2 Q ((f s).bind kk))
    (h : ∀ y H2 G1 s1 F1 w, Same G G1 → RS g G1 H2 s1 σ F1 → Rl σ s1 G1 H2 w y none_ → Post g W σ G1 H2 (Own F1) Rl2 Q (kk w s1) → f s = .ok w s1 → Q2 y H2) : T g W Rl f σ H Q2 := by
  refine ⟨G, s, F, R, ?_⟩
  cases hf : f s with
  | bad => rw [hf] at p; exact p
  | exc e s1 => rw [hf] at p; exact p
  | ok a s1 =>
    rw [hf] at p
    intro G' H' F' P b t R1 d q
    have e := poor_none (n _ _ _ _ _ _ _ q)
    subst e
    exact h b H' G' s1 F' a t.g R1 q ((p : Post g W σ G H (Own F) Rl2 Q (kk a s1)).stp t |>.sup fun c z => .inr z) hf
theorem marks_of {o q : COp} {op op2 : CmpOp} {m r : Expr} (h : opC q op2 = true) : lastMarks [op, op2] [m, r] = false := by
  show behindInMarks op2 r = false
  exact L2.nomark r (by intro z; subst z; cases q <;> cases h) (by intro z; subst z; cases q <;> cases h)
theorem chain_of {o q : COp} {α β : Type} {Rl : RL α β} {Q : β → Hp → Prop} {Qv : VK} {kk : Bool → S → Res α} (hq : T g W Rl (fun s => (frzR (ev Γ a s)).bind fun x s1 => (frzR (ev Γ b s1)).bind fun y s2 => (Res.opt (cmpop o x y) s2).bind fun k s3 =>
      if k then (frzR (ev Γ c s3)).bind fun z s4 => (Res.opt (cmpop q y z) s4).bind kk else kk false s3) σ H Q)
    (hk : ∀ d H1 G1 s1 F1, RS g G1 H1 s1 σ F1 → Post g W σ G1 H1 (Own F1) Rl Q (kk d s1) → Qv (.bl d) H1) :
    L2.tChain (rCmp g o) (rCmp g q) (T g W (RlV g) fun s => frzR (ev Γ a s)) (T g W (RlV g) fun s => frzR (ev Γ b s)) (T g W (RlV g) fun s => frzR (ev Γ c s)) σ H Qv := by
  obtain ⟨G, s, F, R, p⟩ := hq
  refine P_bind poor_V R p fun x H1 G1 s1 F1 v _ R1 hv p _ => ?_
  refine P_bind (f := fun s => frzR (ev Γ b s)) poor_V R1 p fun y H2 G2 s2 F2 w m2 R2 hw p _ => ?_
  cases e : cmpop o v w with
  | none => rw [e] at p; exact p.elim
  | some d =>
    rw [e] at p
    have p : Post g W σ G2 H2 (Own F2) Rl Q (if d = true then (frzR (ev Γ c s2)).bind fun z s4 => (Res.opt (cmpop q w z) s4).bind kk else kk false s2) := p
    refine ⟨G2, v, w, d, R2.sub, PkR.of R2.sub (Rep.mono m2 _ _ hv.2), PkR.of R2.sub hw.2, e, d, rfl, ?_⟩
    cases d with
    | false => exact hk false H2 G2 s2 F2 R2 p
    | true =>
      refine P_bind (f := fun s => frzR (ev Γ c s)) poor_V R2 p fun z H3 G3 s3 F3 u m3 R3 hu p _ => ?_
      cases e2 : cmpop q w u with
      | none => rw [e2] at p; exact p.elim
      | some d2 =>
        rw [e2] at p
        exact ⟨G3, w, u, d2, R3.sub, PkR.of R3.sub (Rep.mono m3 _ _ hw.2), PkR.of R3.sub hu.2, e2, hk d2 H3 G3 s3 F3 R3 p⟩
theorem boolR_eq (r : Res Bool) : boolR r = r.bind fun k s => .ok (.sh (.bl k)) s := rfl
theorem bind_ok {α : Type} (r : Res α) : r.bind Res.ok = r := by cases r <;> rfl
theorem c_chn (C : Cxt g gn Γ N k sc W X) {o q : COp} {op op2 : CmpOp} {m : Expr} (ho : opC o op = true) (hq : opC q op2 = true) (ha : PE X l (T g W (RlO g) (ev Γ a))) (hb : PE X m (T g W (RlO g) (ev Γ b))) (hc : PE X r (T g W (RlO g) (ev Γ c))) :
    PE X (.Compare l [op, op2] [m, r] p) (T g W (RlO g) (ev Γ (.chn o q a b c))) := by
  refine PE_imp (L2.pe_chain (op_cmp C.hK C.room.units ho) (op_cmp C.hK C.room.units hq) (PE_frz ha) (PE_frz hb) (PE_frz hc) (marks_of (o := o) hq)) fun σ H Q h => ?_
  have h : T g W (RlO g) (fun s => (frzR (ev Γ a s)).bind fun x s1 => (frzR (ev Γ b s1)).bind fun y s2 => (Res.opt (cmpop o x y) s2).bind fun k s3 =>
      if k then (frzR (ev Γ c s3)).bind fun z s4 => (Res.opt (cmpop q y z) s4).bind (fun k s => .ok (.sh (.bl k)) s) else .ok (.sh (.bl false)) s3) σ H Q := h
  exact chain_of (kk := fun k s => Res.ok (OV.sh (PV.bl k)) s) h fun d H1 G1 s1 F1 R1 p => here_sh R1 p rep_bl
theorem t_chn (C : Cxt g gn Γ N k sc W X) {o q : COp} {op op2 : CmpOp} {m : Expr} (ho : opC o op = true) (hq : opC q op2 = true) (ha : PE X l (T g W (RlO g) (ev Γ a))) (hb : PE X m (T g W (RlO g) (ev Γ b))) (hc : PE X r (T g W (RlO g) (ev Γ c))) :
    PT X (.Compare l [op, op2] [m, r] p) (T g W RlB (te Γ (.chn o q a b c))) := by
  refine PT_imp (L2.pt_chain (op_cmp C.hK C.room.units ho) (op_cmp C.hK C.room.units hq) (PE_frz ha) (PE_frz hb) (PE_frz hc) (marks_of (o := o) hq)) fun σ H Q h => ?_
  have h : T g W RlB (fun s => (frzR (ev Γ a s)).bind fun x s1 => (frzR (ev Γ b s1)).bind fun y s2 => (Res.opt (cmpop o x y) s2).bind fun k s3 =>
      if k then (frzR (ev Γ c s3)).bind fun z s4 => Res.opt (cmpop q y z) s4 else .ok false s3) σ H Q := h
  have h : T g W RlB (fun s => (frzR (ev Γ a s)).bind fun x s1 => (frzR (ev Γ b s1)).bind fun y s2 => (Res.opt (cmpop o x y) s2).bind fun k s3 =>
      if k then (frzR (ev Γ c s3)).bind fun z s4 => (Res.opt (cmpop q y z) s4).bind Res.ok else Res.ok false s3) σ H Q := by
    simp only [bind_ok]; exact h
  exact chain_of (kk := Res.ok) h fun d H1 G1 s1 F1 R1 p => ⟨_, rfl, here_b R1 p⟩
def lenE : Exs → Nat
  | .nil => 0
  | .cons _ es => lenE es + 1
theorem chks_len : ∀ {es : Exs} {ls : List Expr}, chks gn N sc es ls = true → ls.length = lenE es
  | .nil, ls, h => by
    cases ls with
    | nil => rfl
    | cons a r => exact ff h
  | .cons a es, ls, h => by
    cases ls with
    | nil => exact ff h
    | cons x r =>
      have h : (chk gn N sc a x && chks gn N sc es r) = true := h
      rw [Bool.and_eq_true] at h
      show r.length + 1 = lenE es + 1
      rw [chks_len h.2]
theorem bind_some {α β : Type} {r : Res α} {f : α → S → Res β} {v : β} {s' : S} (h : r.bind f = .ok v s') : ∃ a s1, r = .ok a s1 ∧ f a s1 = .ok v s' := by
  cases r with
  | ok a s1 => exact ⟨a, s1, rfl, h⟩
  | exc e s1 => cases h
  | bad => cases h
theorem evs_len : ∀ {es : Exs} {s s' : S} {vs : List PV}, evs Γ es s = .ok vs s' → vs.length = lenE es
  | .nil, s, s', vs, h => by cases (show Res.ok [] s = Res.ok vs s' from h); rfl
  | .cons a es, s, s', vs, h => by
    have h : ((frzR (ev Γ a s)).bind fun v s' => (evs Γ es s').bind fun vs s'' => .ok (v :: vs) s'') = .ok vs s' := h
    obtain ⟨v, s1, _, h⟩ := bind_some h
    obtain ⟨ws, s2, e, h⟩ := bind_some h
    cases h
    show ws.length + 1 = lenE es + 1
    rw [evs_len e]
theorem a_nil : PA X [] (T g W (RlVs g) (evs Γ .nil)) := PA_imp L2.pa_nil fun σ H Q q => by
  obtain ⟨G, s, F, R, p⟩ := q
  exact Post.here (a := ([] : List PV)) (b := ([] : List V)) R p ⟨fun _ z => z, rfl⟩
theorem a_cons (ca : chk gn N sc a l = true) (ha : PE X l (T g W (RlO g) (ev Γ a))) (hr : PA X ls (T g W (RlVs g) (evs Γ es))) : PA X (l :: ls) (T g W (RlVs g) (evs Γ (.cons a es))) := by
  refine PA_imp (L2.pa_cons (PE_frz ha) hr (star_one (chk_plain ca).1)) fun σ H Q q => ?_
  obtain ⟨G, s, F, R, p⟩ := q
  have p : Post g W σ G H (Own F) (RlVs g) Q ((frzR (ev Γ a s)).bind fun v s' => (evs Γ es s').bind fun vs s'' => .ok (v :: vs) s'') := p
  refine P_bind (f := fun s => frzR (ev Γ a s)) poor_V R p fun x H1 G1 s1 F1 v _ R1 hv p _ => ?_
  refine P_bind (f := evs Γ es) poor_Vs R1 p fun xs H2 G2 s2 F2 vs m2 R2 hvs p _ => ?_
  exact Post.here (a := v :: vs) R2 p ⟨fun _ z => z, Reps.cons (Rep.mono m2 _ _ hv.2) hvs.2⟩
theorem c_tup {n : Nat} (hl : ls.length ≤ 1000) (cs : chks gn N sc es ls = true) (hs : PA X ls (T g W (RlVs g) (evs Γ es))) : PE X (.Tuple ls n p) (T g W (RlO g) (ev Γ (.tup es))) := by
  refine PE_imp (L2.pe_tup hs) fun σ H Q q => ?_
  obtain ⟨G, s, F, R, p⟩ := q
  have p : Post g W σ G H (Own F) (RlO g) Q ((evs Γ es s).bind fun vs s' => .ok (.sh (.tup vs)) s') := p
  refine P_bind (f := evs Γ es) poor_Vs R p fun xs H2 G2 s2 F2 vs m2 R2 hvs p hf => ?_
  have hz : xs.length ≤ 1000 := by rw [← hvs.2.length, evs_len hf, ← chks_len cs]; exact hl
  exact ⟨Nat.le_trans hz (by rw [sizeLine_eq]; decide), fun z n => (p.out R2).tup R2.sub hvs.2 n⟩
theorem c_lst (hl : ls.length ≤ 1000) (cs : chks gn N sc es ls = true) (hs : PA X ls (T g W (RlVs g) (evs Γ es))) : PE X (.List ls p) (T g W (RlO g) (ev Γ (.lst es))) := by
  refine PE_imp (L2.pe_lst hs) fun σ H Q q => ?_
  obtain ⟨G, s, F, R, p⟩ := q
  have p : Post g W σ G H (Own F) (RlO g) Q ((evs Γ es s).bind fun vs s' => .ok (.lst vs) s') := p
  refine P_bind (f := evs Γ es) poor_Vs R p fun xs H2 G2 s2 F2 vs m2 R2 hvs p hf => ?_
  have hz : xs.length ≤ 1000 := by rw [← hvs.2.length, evs_len hf, ← chks_len cs]; exact hl
  exact ⟨Nat.le_trans hz (by rw [sizeLine_eq]; decide), fun z n => (p.out R2).lst R2.sub hvs.2 n⟩
/-! built-ins -/
def RlBi (g : Gm) : RL (List PV) (List V) := fun _ _ G H vs xs P => (∀ a, ¬ P a) ∧ ((∃ v x, vs = [v] ∧ xs = [x] ∧ PkR g G H v x) ∨ (vs.length ≠ 1 ∧ Reps g G vs xs))
theorem poor_Bi : Poor (RlBi g) := fun _ _ _ _ _ _ _ h => h.1
theorem b_nil : PA X [] (T g W (RlBi g) (evP Γ .nil)) := PA_imp L2.pa_nil fun σ H Q q => by
  obtain ⟨G, s, F, R, p⟩ := q
  exact Post.here (a := ([] : List PV)) (b := ([] : List V)) R p ⟨fun _ z => z, .inr ⟨by decide, rfl⟩⟩
theorem b_one (C : Cxt g gn Γ N k sc W X) (ca : chk gn N sc a l = true) (ha : PE X l (T g W (RlO g) (ev Γ a))) : PA X [l] (T g W (RlBi g) (evP Γ (.cons a .nil))) := by
  refine PA_imp (L2.pa_cons (c_peek C ca ha) L2.pa_nil (star_one (chk_plain ca).1)) fun σ H Q q => ?_
  obtain ⟨G, s, F, R, p⟩ := q
  have p : Post g W σ G H (Own F) (RlBi g) Q ((peek a (ev Γ a) s).bind fun v s' => .ok [v] s') := p
  refine P_bind (f := peek a (ev Γ a)) poor_P R p fun x H1 G1 s1 F1 v _ R1 hv p _ => ?_
  exact Post.here (a := [v]) (b := [x]) R1 p ⟨fun _ z => z, .inl ⟨v, x, rfl, rfl, hv.2⟩⟩
theorem b_cons {b : Ex} {r : Expr} (ca : chk gn N sc a l = true) (ha : PE X l (T g W (RlO g) (ev Γ a))) (hr : PA X ls (T g W (RlVs g) (evs Γ (.cons b es)))) : PA X (l :: ls) (T g W (RlBi g) (evP Γ (.cons a (.cons b es)))) := by
  refine PA_imp (L2.pa_cons (PE_frz ha) hr (star_one (chk_plain ca).1)) fun σ H Q q => ?_
  obtain ⟨G, s, F, R, p⟩ := q
  have p : Post g W σ G H (Own F) (RlBi g) Q ((frzR (ev Γ a s)).bind fun v s' => (evs Γ (.cons b es) s').bind fun vs s'' => .ok (v :: vs) s'') := p
  refine P_bind (f := fun s => frzR (ev Γ a s)) poor_V R p fun x H1 G1 s1 F1 v _ R1 hv p _ => ?_
  refine P_bind (f := evs Γ (.cons b es)) poor_Vs R1 p fun xs H2 G2 s2 F2 vs m2 R2 hvs p hf => ?_
  refine Post.here (a := v :: vs) R2 p ⟨fun _ z => z, .inr ⟨?_, Reps.cons (Rep.mono m2 _ _ hv.2) hvs.2⟩⟩
  rw [List.length_cons, evs_len hf]
  show lenE es + 1 + 1 ≠ 1
  omega
theorem biS_ok (b : Bi) : biS b ≠ "__name__" ∧ (biS b == ("__debug__" : Str)) = false ∧ bootBuiltins (biS b) = some (biV b) := by
  cases b
  · exact ⟨by decide, by decide, by decide +kernel⟩
  · exact ⟨by decide, by decide, by decide +kernel⟩
  · exact ⟨by decide, by decide, by decide +kernel⟩
  · exact ⟨by decide, by decide, by decide +kernel⟩
  · exact ⟨by decide, by decide, by decide +kernel⟩
  · exact ⟨by decide, by decide, by decide +kernel⟩
  · exact ⟨by decide, by decide, by decide +kernel⟩
  · exact ⟨by decide, by decide, by decide +kernel⟩
  · exact ⟨by decide, by decide, by decide +kernel⟩
  · exact ⟨by decide, by decide, by decide +kernel⟩
  · exact ⟨by decide, by decide, by decide +kernel⟩
theorem pe_bi (C : Cxt g gn Γ N k sc W X) {b : Bi} {t : L2.TA} {p1 : Pos} (hg : glB sc (biS b) = true) (ca : chk gn N sc a l = true) (cs : chks gn N sc es ls = true) (h : PA X (l :: ls) t) : PE X (.Call (.Name (biS b) p1) (l :: ls) [] p) (L2.tCB (rBi g b) t) := by
  have hc := call_bi C.hK C.calm C.gd (by have := C.room.un; omega) b
  obtain ⟨n1, n2, n3⟩ := biS_ok b
  obtain ⟨gl, _⟩ := glB_ok C hg
  have m := C.mgB b
  cases b <;> first
    | exact L2.pe_callB hc gl m n3 h n1 n2 (star_one (chk_plain ca).1) (chks_plain cs _ _)
    | exact L2.pe_callTy hc gl m n3 h n1 n2 (star_one (chk_plain ca).1) (chks_plain cs _ _)
theorem PE_no {t : L2.TE} (h : ∀ σ H Q, ¬ t σ H Q) : PE X e t := ⟨fun pins s σ H Q I q => (h _ _ _ q).elim⟩
theorem PT_no {t : L2.TT} (h : ∀ σ H Q, ¬ t σ H Q) : PT X e t := ⟨fun pins s σ H Q I q => (h _ _ _ q).elim⟩
theorem bi_nil (b : Bi) : bi b [] = none := by cases b <;> rfl
theorem c_bi (C : Cxt g gn Γ N k sc W X) {b : Bi} {p1 : Pos} (hg : glB sc (biS b) = true) (cs : chks gn N sc es ls = true) (h : PA X ls (T g W (RlBi g) (evP Γ es))) : PE X (.Call (.Name (biS b) p1) ls [] p) (T g W (RlO g) (ev Γ (.bi b es))) := by
  cases es with
  | nil =>
    refine PE_no fun σ H Q q => ?_
    obtain ⟨G, s, F, R, p⟩ := q
    have p : Post g W σ G H (Own F) (RlO g) Q (Res.opt (bi b []) s) := p
    rw [bi_nil] at p
    exact p
  | cons a es =>
    cases ls with
    | nil => exact ff cs
    | cons l ls =>
      have cs : (chk gn N sc a l && chks gn N sc es ls) = true := cs
      rw [Bool.and_eq_true] at cs
      refine PE_imp (pe_bi C hg cs.1 cs.2 h) fun σ H Q q => ?_
      obtain ⟨G, s, F, R, p⟩ := q
      have p : Post g W σ G H (Own F) (RlO g) Q ((evP Γ (.cons a es) s).bind fun vs s' => Res.opt (bi b vs) s') := p
      refine P_bind (f := evP Γ (.cons a es)) poor_Bi R p fun x H1 G1 s1 F1 v _ R1 hv p _ => ?_
      obtain ⟨ov, e, p⟩ := Post.opt p
      exact ⟨G1, v, ov, R1.sub, hv.2, e, p.out R1⟩
/-- a value's truth -/
theorem Post.truO {K : PySem.W.Frag} (hK : K = g.K) {A : Fp} {r : Res OV} {Q : Bool → Hp → Prop} (h : Post g W σ G H A RlB Q ((frzR r).bind fun v s2 => Res.opt (truth v) s2)) : Post g W σ G H A (RlO g) (fun x H' => ∃ k, L2.TruV K x H' k ∧ Q k H') r := by
  refine Post.frz ((Post.bind (Rl := RlV g) h).imp fun x H1 q => ?_)
  obtain ⟨G1, s1, F1, v, P, t, R1, d, q, p⟩ := q
  obtain ⟨k, e, p⟩ := Post.opt p
  exact ⟨k, tru_of hK R1.sub (PkR.of R1.sub q.2) e, Post.here R1 (p.sup fun _ z => .inr z) ⟨fun _ z => z, rfl⟩⟩
theorem t_bi (C : Cxt g gn Γ N k sc W X) {b : Bi} {p1 : Pos} (hg : glB sc (biS b) = true) (cs : chks gn N sc es ls = true) (h : PA X ls (T g W (RlBi g) (evP Γ es))) : PT X (.Call (.Name (biS b) p1) ls [] p) (T g W RlB (te Γ (.bi b es))) := by
  refine PT_imp (L2.pt_truth (c_bi C hg cs h) fun _ => rfl) fun σ H Q q => ?_
  obtain ⟨G, s, F, R, p⟩ := q
  have p : Post g W σ G H (Own F) RlB Q ((evP Γ es s).bind fun vs s' => (frzR (Res.opt (bi b vs) s')).bind fun v s1 => Res.opt (truth v) s1) := p
  refine ⟨G, s, F, R, ?_⟩
  show Post g W σ G H (Own F) (RlO g) _ ((evP Γ es s).bind fun vs s' => Res.opt (bi b vs) s')
  refine Post.truO C.hK ?_
  have e : (frzR ((evP Γ es s).bind fun vs s' => Res.opt (bi b vs) s')).bind (fun v s2 => Res.opt (truth v) s2) = (evP Γ es s).bind fun vs s' => (frzR (Res.opt (bi b vs) s')).bind fun v s1 => Res.opt (truth v) s1 := by
    cases evP Γ es s <;> rfl
  rw [e]; exact p
/-! calls -/
def RlC (g : Gm) : RL CA V := fun σ _ G _ c x P => (∀ a, ¬ P a) ∧ CaR g σ G c x
def RlCs (g : Gm) : RL (List CA) (List V) := fun σ _ G _ c x P => (∀ a, ¬ P a) ∧ CAs g σ G c x
theorem poor_C : Poor (RlC g) := fun _ _ _ _ _ _ _ h => h.1
theorem poor_Cs : Poor (RlCs g) := fun _ _ _ _ _ _ _ h => h.1
theorem c_arg (C : Cxt g gn Γ N k sc W X) {i : Bool} (ca : chk gn N sc a l = true) (ha : PE X l (T g W (RlO g) (ev Γ a))) : PE X l (T g W (RlC g) (argR a (ev Γ a) i)) := by
  have gen : ∀ {σ H G s F} {Q : VK}, RS g G H s σ F → Post g W σ G H (Own F) (RlC g) Q ((frzR (ev Γ a s)).bind fun v s' => .ok (.v v) s') → T g W (RlV g) (fun s => frzR (ev Γ a s)) σ H Q := by
    intro σ H G s F Q R p
    refine P_bind (f := fun s => frzR (ev Γ a s)) poor_V R p fun x H1 G1 s1 F1 v _ R1 hv p _ => ?_
    exact Post.here (a := CA.v v) R1 p ⟨fun _ z => z, hv.2⟩
  rcases var_or (g := g) (W := W) a with ⟨j, rfl⟩ | ⟨_, _, _, e4, _⟩
  · refine PE_imp (look_name C ca) fun σ H Q q => ?_
    obtain ⟨G, s, F, R, p⟩ := q
    have p : Post g W σ G H (Own F) (RlC g) Q (if ((getO s j).own && i) = true then .ok (.s j) s else (ev Γ (.var j) s).bind fun o s' => (Res.opt o.pv s').bind fun v s'' => .ok (.v v) s'') := p
    cases hb : ((getO s j).own && i) with
    | true =>
      rw [hb] at p
      rw [Bool.and_eq_true] at hb
      have hv : ∃ v, getV s j = some v := by
        unfold getV
        cases h : getO s j with
        | emp => rw [h] at hb; cases hb.1
        | kls c => rw [h] at hb; cases hb.1
        | sh v => exact ⟨_, rfl⟩
        | lst v => exact ⟨_, rfl⟩
        | obj c v => exact ⟨_, rfl⟩
      obtain ⟨v, hv⟩ := hv
      obtain ⟨_, x, ex, _⟩ := R.look hv
      exact ⟨x, ex, Post.here (a := CA.s j) R p ⟨fun _ z => z, ex⟩⟩
    | false =>
      rw [hb] at p
      have p : Post g W σ G H (Own F) (RlC g) Q ((((Res.opt (getV s j) s).bind fun v s' => .ok (OV.sh v) (if (getO s j).own then s'.set j (.sh v) else s')) : Res OV).bind fun o s' => (Res.opt o.pv s').bind fun v s'' => .ok (.v v) s'') := p
      cases hv : getV s j with
      | none => rw [hv] at p; exact p.elim
      | some v =>
        rw [hv] at p
        obtain ⟨G', F', x, t, R', ex, r⟩ := R.thaw hv
        have p : Post g W σ G H (Own F) (RlC g) Q (.ok (.v v) (if (getO s j).own then s.set j (.sh v) else s)) := p
        exact ⟨x, ex, p G' H F' none_ x (t.sub fun c z => z.elim (fun z => z.elim) id) R' (fun _ z => z.elim) ⟨fun _ z => z, r⟩⟩
  · refine PE_imp (PE_frz ha) fun σ H Q q => ?_
    obtain ⟨G, s, F, R, p⟩ := q
    rw [e4] at p
    exact gen R p
theorem g_nil {cs : List Nat} {i : Nat} : PA X [] (T g W (RlCs g) (evA Γ cs i .nil)) := PA_imp L2.pa_nil fun σ H Q q => by
  obtain ⟨G, s, F, R, p⟩ := q
  exact Post.here (a := ([] : List CA)) (b := ([] : List V)) R p ⟨fun _ z => z, rfl⟩
theorem g_cons (C : Cxt g gn Γ N k sc W X) {cs : List Nat} {i : Nat} (ca : chk gn N sc a l = true) (ha : PE X l (T g W (RlO g) (ev Γ a))) (hr : PA X ls (T g W (RlCs g) (evA Γ cs (i + 1) es))) : PA X (l :: ls) (T g W (RlCs g) (evA Γ cs i (.cons a es))) := by
  refine PA_imp (L2.pa_cons (c_arg C (i := cs.contains i) ca ha) hr (star_one (chk_plain ca).1)) fun σ H Q q => ?_
  obtain ⟨G, s, F, R, p⟩ := q
  have p : Post g W σ G H (Own F) (RlCs g) Q ((argR a (ev Γ a) (cs.contains i) s).bind fun c s' => (evA Γ cs (i + 1) es s').bind fun r s'' => .ok (c :: r) s'') := p
  refine P_bind (f := argR a (ev Γ a) (cs.contains i)) poor_C R p fun x H1 G1 s1 F1 v _ R1 hv p _ => ?_
  refine P_bind (f := evA Γ cs (i + 1) es) poor_Cs R1 p fun xs H2 G2 s2 F2 vs m2 R2 hvs p _ => ?_
  exact Post.here (a := v :: vs) R2 p ⟨fun _ z => z, x, xs, rfl, hv.2.mono m2, hvs.2⟩
theorem c_call (C : Cxt g gn Γ N k sc W X) {f : Nat} {x : Str} {p1 : Pos} (hf : isO (gn.fn f) x = true) (hg : glB sc x = true) (cs : chks gn N sc es ls = true) (h : PA X ls (T g W (RlCs g) (evA Γ (Γ.cst f) 0 es))) :
    PE X (.Call (.Name x p1) ls [] p) (T g W (RlO g) (ev Γ (.call f es))) := by
  obtain ⟨t, e1, rfl⟩ := isO_ok hf
  obtain ⟨fa, fd, ps, hm, hk, hb, F⟩ := C.fn f t e1
  obtain ⟨gl, db⟩ := glB_ok C hg
  have un : ∀ {σ H Q}, T g W (RlO g) (ev Γ (.call f es)) σ H Q → T g W (RlCs g) (evA Γ (Γ.cst f) 0 es) σ H fun xs H1 => SpF g Γ f (xs ++ []) H1 Q (fun cls d H' => W cls d σ H') := by
    intro σ H Q q
    obtain ⟨G, s, F, R, p⟩ := q
    have p : Post g W σ G H (Own F) (RlO g) Q ((evA Γ (Γ.cst f) 0 es s).bind fun cas s1 => match takeA cas s1 with
      | none => .bad
      | some q => callR (Γ.rho f q.1) cas s1 q.2) := p
    refine P_bind (f := evA Γ (Γ.cst f) 0 es) poor_Cs R p fun xs H2 G2 s2 F2 vs m2 R2 hvs p _ => ?_
    exact call_of R2 hvs.2 p
  have hx : ∀ σ, L2.PassesAt (L2.CX X.prog X.w) X σ (fun cls d H' => W cls d σ H') := fun σ => L2.passAt C.takes σ
  cases es with
  | nil =>
    cases ls with
    | cons l ls => exact ff cs
    | nil =>
      refine PE_imp (callG0 F C.gd C.room gl hm hk hb hx db) fun σ H Q q => ?_
      have q := un q
      obtain ⟨G, s, F, R, p⟩ := q
      exact Post.here (a := ([] : List CA)) (b := ([] : List V)) R p ⟨fun _ z => z, rfl⟩
  | cons a es =>
    cases ls with
    | nil => exact ff cs
    | cons l ls =>
      have cs : (chk gn N sc a l && chks gn N sc es ls) = true := cs
      rw [Bool.and_eq_true] at cs
      exact PE_imp (callG F C.gd C.room gl hm hk hb .nil hx h db (star_one (chk_plain cs.1).1) (chks_plain cs.2 _ _)) fun σ H Q q => un q
theorem t_call (C : Cxt g gn Γ N k sc W X) {f : Nat} {x : Str} {p1 : Pos} (hf : isO (gn.fn f) x = true) (hg : glB sc x = true) (cs : chks gn N sc es ls = true) (h : PA X ls (T g W (RlCs g) (evA Γ (Γ.cst f) 0 es))) :
    PT X (.Call (.Name x p1) ls [] p) (T g W RlB (te Γ (.call f es))) := by
  refine PT_imp (L2.pt_truth (c_call C hf hg cs h) fun _ => rfl) fun σ H Q q => ?_
  obtain ⟨G, s, F, R, p⟩ := q
  have p : Post g W σ G H (Own F) RlB Q ((evA Γ (Γ.cst f) 0 es s).bind fun cas s1 => match takeA cas s1 with
    | none => .bad
    | some q => (frzR (callR (Γ.rho f q.1) cas s1 q.2)).bind fun v s2 => Res.opt (truth v) s2) := p
  refine ⟨G, s, F, R, ?_⟩
  show Post g W σ G H (Own F) (RlO g) _ ((evA Γ (Γ.cst f) 0 es s).bind fun cas s1 => match takeA cas s1 with
    | none => .bad
    | some q => callR (Γ.rho f q.1) cas s1 q.2)
  refine Post.truO C.hK ?_
  have e : (frzR ((evA Γ (Γ.cst f) 0 es s).bind fun cas s1 => match takeA cas s1 with
    | none => .bad
    | some q => callR (Γ.rho f q.1) cas s1 q.2)).bind (fun v s2 => Res.opt (truth v) s2) = (evA Γ (Γ.cst f) 0 es s).bind fun cas s1 => match takeA cas s1 with
    | none => .bad
    | some q => (frzR (callR (Γ.rho f q.1) cas s1 q.2)).bind fun v s2 => Res.opt (truth v) s2 := by
    cases evA Γ (Γ.cst f) 0 es s with
    | bad => rfl
    | exc e s1 => rfl
    | ok cas s1 =>
      show (frzR (match takeA cas s1 with
        | none => .bad
        | some q => callR (Γ.rho f q.1) cas s1 q.2)).bind (fun v s2 => Res.opt (truth v) s2) = match takeA cas s1 with
        | none => .bad
        | some q => (frzR (callR (Γ.rho f q.1) cas s1 q.2)).bind fun v s2 => Res.opt (truth v) s2
      cases takeA cas s1 <;> rfl
  rw [e]; exact p
end
end PF
set_option Elab.async false
set_option linter.all false
set_option maxRecDepth 100000
set_option maxHeartbeats 4000000
/-! PF, part k: isinstance; sources; comprehensions; every expression. -/
namespace PF
open PySem PySem.Spec PyProof.Rows
open L2 (V Hp HO upd upd_same upd_ne Same SqL SqT WX PE PT PA PC OpR CallR IxR SlR MtR TruR VK)
section
variable {g : Gm} {gn : GN} {Γ : Env} {N : List Tx} {k : Nat} {sc : Scope} {W : WX} {X : L2.Cx} {σ : L2.St} {H G : Hp} {a b c : Ex} {l r t x y e : Expr} {p : Pos} {s : S} {F : Nat → Fp} {es : Exs} {ls : List Expr}
/-! ### isinstance -/
theorem sqT_ty {K : PySem.W.Frag} {a : Addr} {vs : List V} (h : SqT K H a vs) : L2.TyX K H (.ref a) (.type "tuple") := by
  rcases h with (h | ⟨o, h⟩) | ⟨o, its, n, h1, h2, _⟩
  · exact .base (.tup h)
  · exact .fTuple h
  · exact .kTuple h1 h2
theorem sqL_ty {K : PySem.W.Frag} {a : Addr} {vs : List V} (h : SqL K H a vs) : L2.TyX K H (.ref a) (.type "list") := by
  rcases h with (h | ⟨o, h⟩) | ⟨o, its, n, h1, h2, _⟩
  · exact .base (.lst h)
  · exact .base (.frz h)
  · exact .kList h1 h2
theorem tyx_of (C : Cxt g gn Γ N k sc W X) (m : Same G H) {v : PV} {x : V} (h : PkR g G H v x) : L2.TyX X.K H x (typV g v) := by
  cases v with
  | non => cases (show x = _ from h); exact .base .non
  | bl b => cases (show x = _ from h); exact .base (.bl b)
  | int b => cases (show x = _ from h); exact .base (.int b)
  | str b => cases (show x = _ from h); exact .base (.str _)
  | tup _ => obtain ⟨a, vs, rfl, h1, _⟩ := h; exact sqT_ty (by rw [C.hK]; exact sqT_mono m h1)
  | lst _ => obtain ⟨a, vs, rfl, h1, _⟩ := h; exact sqL_ty (.inl (.inl h1))
  | frz _ => obtain ⟨a, vs, rfl, h1, _⟩ := h; exact sqL_ty (by rw [C.hK]; exact m.seq h1)
  | ins c _ => obtain ⟨kn, a, dx, vs, rfl, h1, _⟩ := h; exact (C.ins c .int kn).1 _ _ _ _ h1
  | dct _ _ => obtain ⟨a, kvs, rfl, h1, _⟩ := h; exact .base (.dK (m _ _ h1))
theorem kn_of {v : PV} {x : V} (h : PkR g G H v x) : knV g v := by
  cases v <;> first | exact True.intro | exact h.1
def tyB (gn : GN) (x : Str) : Ty → Bool
  | .cls c => isO (gn.cls c) x
  | .int => decide (tyS .int = some x) | .bool => decide (tyS .bool = some x) | .str => decide (tyS .str = some x) | .list => decide (tyS .list = some x) | .tuple => decide (tyS .tuple = some x) | .dict => decide (tyS .dict = some x)
theorem tyB_of {ty : Ty} {x : Str} {p1 : Pos} (h : chkTy gn sc ty (.Name x p1) = true) : (glB sc x && tyB gn x ty) = true := by cases ty <;> exact h
theorem kit_ok (C : Cxt g gn Γ N k sc W X) {ty : Ty} {x : Str} {p1 : Pos} (h : chkTy gn sc ty (.Name x p1) = true) (v : PV) (hk : knV g v) : PySem.W.kitOne X.K (typV g v) (tyW g ty) = some (isTy ty v) := by
  have h := tyB_of h
  rw [Bool.and_eq_true] at h
  by_cases hc : ∃ c, ty = .cls c
  · obtain ⟨c, rfl⟩ := hc
    obtain ⟨t, e, _⟩ := isO_ok (o := gn.cls c) h.2
    exact (C.cls c t e).2 v hk
  · have nc : ∀ c, ty ≠ .cls c := fun c z => hc ⟨c, z⟩
    cases v with
    | ins c fs =>
      have q := (C.ins c ty hk).2 (nc c) nc
      rw [show typV g (.ins c fs) = .ref (g.cl c) from rfl, q]
      show _ = some (decide (ty = .cls c))
      rw [decide_eq_false (nc c)]
    | non => cases ty <;> first | exact absurd rfl (nc _) | exact L2.kit_ty (by decide +kernel)
    | bl b => cases ty <;> first | exact absurd rfl (nc _) | exact (L2.kit_ty (show L2.kitB "bool" "int" = some (isTy .int (.bl true)) by decide +kernel) : PySem.W.kitOne X.K (.type "bool") (.type "int") = _) | exact (L2.kit_ty (show L2.kitB "bool" "bool" = some (isTy .bool (.bl true)) by decide +kernel) : PySem.W.kitOne X.K (.type "bool") (.type "bool") = _) | exact (L2.kit_ty (show L2.kitB "bool" "str" = some (isTy .str (.bl true)) by decide +kernel) : PySem.W.kitOne X.K (.type "bool") (.type "str") = _) | exact (L2.kit_ty (show L2.kitB "bool" "list" = some (isTy .list (.bl true)) by decide +kernel) : PySem.W.kitOne X.K (.type "bool") (.type "list") = _) | exact (L2.kit_ty (show L2.kitB "bool" "tuple" = some (isTy .tuple (.bl true)) by decide +kernel) : PySem.W.kitOne X.K (.type "bool") (.type "tuple") = _) | exact (L2.kit_ty (show L2.kitB "bool" "dict" = some (isTy .dict (.bl true)) by decide +kernel) : PySem.W.kitOne X.K (.type "bool") (.type "dict") = _)
    | int b => cases ty <;> first | exact absurd rfl (nc _) | exact (L2.kit_ty (show L2.kitB "int" "int" = some (isTy .int (.int 0)) by decide +kernel) : PySem.W.kitOne X.K (.type "int") (.type "int") = _) | exact (L2.kit_ty (show L2.kitB "int" "bool" = some (isTy .bool (.int 0)) by decide +kernel) : PySem.W.kitOne X.K (.type "int") (.type "bool") = _) | exact (L2.kit_ty (show L2.kitB "int" "str" = some (isTy .str (.int 0)) by decide +kernel) : PySem.W.kitOne X.K (.type "int") (.type "str") = _) | exact (L2.kit_ty (show L2.kitB "int" "list" = some (isTy .list (.int 0)) by decide +kernel) : PySem.W.kitOne X.K (.type "int") (.type "list") = _) | exact (L2.kit_ty (show L2.kitB "int" "tuple" = some (isTy .tuple (.int 0)) by decide +kernel) : PySem.W.kitOne X.K (.type "int") (.type "tuple") = _) | exact (L2.kit_ty (show L2.kitB "int" "dict" = some (isTy .dict (.int 0)) by decide +kernel) : PySem.W.kitOne X.K (.type "int") (.type "dict") = _)
    | str b => cases ty <;> first | exact absurd rfl (nc _) | exact (L2.kit_ty (show L2.kitB "str" "int" = some (isTy .int (.str [])) by decide +kernel) : PySem.W.kitOne X.K (.type "str") (.type "int") = _) | exact (L2.kit_ty (show L2.kitB "str" "bool" = some (isTy .bool (.str [])) by decide +kernel) : PySem.W.kitOne X.K (.type "str") (.type "bool") = _) | exact (L2.kit_ty (show L2.kitB "str" "str" = some (isTy .str (.str [])) by decide +kernel) : PySem.W.kitOne X.K (.type "str") (.type "str") = _) | exact (L2.kit_ty (show L2.kitB "str" "list" = some (isTy .list (.str [])) by decide +kernel) : PySem.W.kitOne X.K (.type "str") (.type "list") = _) | exact (L2.kit_ty (show L2.kitB "str" "tuple" = some (isTy .tuple (.str [])) by decide +kernel) : PySem.W.kitOne X.K (.type "str") (.type "tuple") = _) | exact (L2.kit_ty (show L2.kitB "str" "dict" = some (isTy .dict (.str [])) by decide +kernel) : PySem.W.kitOne X.K (.type "str") (.type "dict") = _)
    | tup b => cases ty <;> first | exact absurd rfl (nc _) | exact (L2.kit_ty (show L2.kitB "tuple" "int" = some (isTy .int (.tup [])) by decide +kernel) : PySem.W.kitOne X.K (.type "tuple") (.type "int") = _) | exact (L2.kit_ty (show L2.kitB "tuple" "bool" = some (isTy .bool (.tup [])) by decide +kernel) : PySem.W.kitOne X.K (.type "tuple") (.type "bool") = _) | exact (L2.kit_ty (show L2.kitB "tuple" "str" = some (isTy .str (.tup [])) by decide +kernel) : PySem.W.kitOne X.K (.type "tuple") (.type "str") = _) | exact (L2.kit_ty (show L2.kitB "tuple" "list" = some (isTy .list (.tup [])) by decide +kernel) : PySem.W.kitOne X.K (.type "tuple") (.type "list") = _) | exact (L2.kit_ty (show L2.kitB "tuple" "tuple" = some (isTy .tuple (.tup [])) by decide +kernel) : PySem.W.kitOne X.K (.type "tuple") (.type "tuple") = _) | exact (L2.kit_ty (show L2.kitB "tuple" "dict" = some (isTy .dict (.tup [])) by decide +kernel) : PySem.W.kitOne X.K (.type "tuple") (.type "dict") = _)
    | lst b => cases ty <;> first | exact absurd rfl (nc _) | exact (L2.kit_ty (show L2.kitB "list" "int" = some (isTy .int (.lst [])) by decide +kernel) : PySem.W.kitOne X.K (.type "list") (.type "int") = _) | exact (L2.kit_ty (show L2.kitB "list" "bool" = some (isTy .bool (.lst [])) by decide +kernel) : PySem.W.kitOne X.K (.type "list") (.type "bool") = _) | exact (L2.kit_ty (show L2.kitB "list" "str" = some (isTy .str (.lst [])) by decide +kernel) : PySem.W.kitOne X.K (.type "list") (.type "str") = _) | exact (L2.kit_ty (show L2.kitB "list" "list" = some (isTy .list (.lst [])) by decide +kernel) : PySem.W.kitOne X.K (.type "list") (.type "list") = _) | exact (L2.kit_ty (show L2.kitB "list" "tuple" = some (isTy .tuple (.lst [])) by decide +kernel) : PySem.W.kitOne X.K (.type "list") (.type "tuple") = _) | exact (L2.kit_ty (show L2.kitB "list" "dict" = some (isTy .dict (.lst [])) by decide +kernel) : PySem.W.kitOne X.K (.type "list") (.type "dict") = _)
    | frz b => cases ty <;> first | exact absurd rfl (nc _) | exact (L2.kit_ty (show L2.kitB "list" "int" = some (isTy .int (.frz [])) by decide +kernel) : PySem.W.kitOne X.K (.type "list") (.type "int") = _) | exact (L2.kit_ty (show L2.kitB "list" "bool" = some (isTy .bool (.frz [])) by decide +kernel) : PySem.W.kitOne X.K (.type "list") (.type "bool") = _) | exact (L2.kit_ty (show L2.kitB "list" "str" = some (isTy .str (.frz [])) by decide +kernel) : PySem.W.kitOne X.K (.type "list") (.type "str") = _) | exact (L2.kit_ty (show L2.kitB "list" "list" = some (isTy .list (.frz [])) by decide +kernel) : PySem.W.kitOne X.K (.type "list") (.type "list") = _) | exact (L2.kit_ty (show L2.kitB "list" "tuple" = some (isTy .tuple (.frz [])) by decide +kernel) : PySem.W.kitOne X.K (.type "list") (.type "tuple") = _) | exact (L2.kit_ty (show L2.kitB "list" "dict" = some (isTy .dict (.frz [])) by decide +kernel) : PySem.W.kitOne X.K (.type "list") (.type "dict") = _)
    | dct _ _ => cases ty <;> first | exact absurd rfl (nc _) | exact (L2.kit_ty (show L2.kitB "dict" "int" = some (isTy .int (.dct [] [])) by decide +kernel) : PySem.W.kitOne X.K (.type "dict") (.type "int") = _) | exact (L2.kit_ty (show L2.kitB "dict" "bool" = some (isTy .bool (.dct [] [])) by decide +kernel) : PySem.W.kitOne X.K (.type "dict") (.type "bool") = _) | exact (L2.kit_ty (show L2.kitB "dict" "str" = some (isTy .str (.dct [] [])) by decide +kernel) : PySem.W.kitOne X.K (.type "dict") (.type "str") = _) | exact (L2.kit_ty (show L2.kitB "dict" "list" = some (isTy .list (.dct [] [])) by decide +kernel) : PySem.W.kitOne X.K (.type "dict") (.type "list") = _) | exact (L2.kit_ty (show L2.kitB "dict" "tuple" = some (isTy .tuple (.dct [] [])) by decide +kernel) : PySem.W.kitOne X.K (.type "dict") (.type "tuple") = _) | exact (L2.kit_ty (show L2.kitB "dict" "dict" = some (isTy .dict (.dct [] [])) by decide +kernel) : PySem.W.kitOne X.K (.type "dict") (.type "dict") = _)
def tyA (g : Gm) : Ty → V
  | .int => .ty "int" | .bool => .ty "bool" | .str => .ty "str" | .list => .ty "list" | .tuple => .ty "tuple" | .dict => .ty "dict" | .cls c => .ref (g.cl c)
theorem tyA_ok (ty : Ty) : L2.ClsV (tyA g ty) (tyW g ty) := by cases ty <;> first | exact .ty _ | exact .own _
theorem ty_name {ty : Ty} (h : chkTy gn sc ty e = true) : ∃ x p1, e = .Name x p1 := by
  cases e <;> first | exact ff h | exact ⟨_, _, rfl⟩
theorem pe_ty (C : Cxt g gn Γ N k sc W X) {ty : Ty} (h : chkTy gn sc ty e = true) : PE X e (L2.tC (tyA g ty)) := by
  obtain ⟨x, p1, rfl⟩ := ty_name h
  have h := tyB_of h
  rw [Bool.and_eq_true] at h
  obtain ⟨gl, db⟩ := glB_ok C h.1
  cases ty with
  | cls c =>
    obtain ⟨t, e, rfl⟩ := isO_ok (o := gn.cls c) h.2
    exact L2.pe_glob gl (C.cls c t e).1 rfl db
  | int =>
    obtain rfl : "int" = x := Option.some.inj (of_decide_eq_true h.2)
    exact L2.pe_bltn gl (C.mgT .int _ rfl) (by decide +kernel) rfl (by decide) db
  | bool =>
    obtain rfl : "bool" = x := Option.some.inj (of_decide_eq_true h.2)
    exact L2.pe_bltn gl (C.mgT .bool _ rfl) (by decide +kernel) rfl (by decide) db
  | str =>
    obtain rfl : "str" = x := Option.some.inj (of_decide_eq_true h.2)
    exact L2.pe_bltn gl (C.mgT .str _ rfl) (by decide +kernel) rfl (by decide) db
  | list =>
    obtain rfl : "list" = x := Option.some.inj (of_decide_eq_true h.2)
    exact L2.pe_bltn gl (C.mgT .list _ rfl) (by decide +kernel) rfl (by decide) db
  | tuple =>
    obtain rfl : "tuple" = x := Option.some.inj (of_decide_eq_true h.2)
    exact L2.pe_bltn gl (C.mgT .tuple _ rfl) (by decide +kernel) rfl (by decide) db
  | dict =>
    obtain rfl : "dict" = x := Option.some.inj (of_decide_eq_true h.2)
    exact L2.pe_bltn gl (C.mgT .dict _ rfl) (by decide +kernel) rfl (by decide) db
def tTys (g : Gm) : List Ty → L2.TA
  | [] => L2.tNil
  | ty :: r => L2.tCons (L2.tC (tyA g ty)) (tTys g r)
theorem tTys_ok : ∀ {tys : List Ty} {Q : List V → Hp → Prop}, Q (tys.map (tyA g)) H → tTys g tys σ H Q
  | [], Q, h => h
  | ty :: r, Q, h => tTys_ok (tys := r) (Q := fun xs H2 => Q (tyA g ty :: xs) H2) h
theorem pa_tys (C : Cxt g gn Γ N k sc W X) : ∀ {tys : List Ty} {ls : List Expr}, chkTys gn sc tys ls = true → PA X ls (tTys g tys) ∧ tys.length = ls.length ∧ ∀ ty, ty ∈ tys → ∀ v, knV g v → PySem.W.kitOne X.K (typV g v) (tyW g ty) = some (isTy ty v)
  | [], [], _ => ⟨L2.pa_nil, rfl, fun _ h => by cases h⟩
  | [], _ :: _, h => ff h
  | _ :: _, [], h => ff h
  | ty :: tys, e :: ls, h => by
    have h : (chkTy gn sc ty e && chkTys gn sc tys ls) = true := h
    rw [Bool.and_eq_true] at h
    obtain ⟨h1, h2, h3⟩ := pa_tys C h.2
    obtain ⟨x, p1, rfl⟩ := ty_name h.1
    refine ⟨L2.pa_cons (pe_ty C h.1) h1 rfl, by simp [h2], fun t ht v hk => ?_⟩
    rcases List.mem_cons.mp ht with z | z
    · subst z; exact kit_ok C h.1 v hk
    · exact h3 t z v hk
theorem kitAny_ok {K : PySem.W.Frag} {t : Value} {v : PV} : ∀ {tys : List Ty}, (∀ ty, ty ∈ tys → PySem.W.kitOne K t (tyW g ty) = some (isTy ty v)) → PySem.W.kitAny K t (tys.map (tyW g)) = some (tys.any fun ty => isTy ty v)
  | [], _ => rfl
  | ty :: r, h => L2.kitAny_cons (h ty List.mem_cons_self) (fun e => by
      rw [kitAny_ok fun t ht => h t (List.mem_cons_of_mem _ ht), List.any_cons, e, Bool.false_or]) fun e => by rw [List.any_cons, e, Bool.true_or]
theorem paired_tys : ∀ tys : List Ty, Paired L2.ClsV (tys.map (tyA g)) (tys.map (tyW g))
  | [] => .nil
  | ty :: r => .cons (tyA_ok ty) (paired_tys r)
theorem pe_isi (C : Cxt g gn Γ N k sc W X) {tys : List Ty} {tp : Bool} {p1 : Pos} (hg : glB sc "isinstance" = true) (ca : chk gn N sc a l = true) (ha : PE X l (T g W (RlO g) (ev Γ a)))
    (ht : (∃ ty, tp = false ∧ tys = [ty] ∧ chkTy gn sc ty t = true) ∨ (∃ l n p2, tp = true ∧ t = .Tuple l n p2 ∧ l.length ≤ 1000 ∧ chkTys gn sc tys l = true)) :
    PE X (.Call (.Name "isinstance" p1) [l, t] [] p) (fun σ H Q => T g W (RlP g) (peek a (ev Γ a)) σ H fun x H1 => ∃ G v, Same G H1 ∧ PkR g G H1 v x ∧ ∀ H2, (H2 = H1 ∨ ∃ z u, H1 z = none ∧ H2 = upd H1 z u) → Q (.bl (tys.any fun ty => isTy ty v)) H2) := by
  obtain ⟨gl, db⟩ := glB_ok C hg
  have m := C.mgR.2.2.2
  rcases ht with ⟨ty, rfl, rfl, ht⟩ | ⟨ls, n, p2, rfl, rfl, hl, ht⟩
  · obtain ⟨x, p3, rfl⟩ := ty_name ht
    refine PE_imp (L2.pe_callB L2.call_isi gl m PyProof.Rows.boot_isinstance (L2.pa_cons (c_peek C ca ha) (L2.pa_cons (pe_ty C ht) L2.pa_nil rfl) (star_one (chk_plain ca).1)) (by decide) db (star_one (chk_plain ca).1) rfl) fun σ H Q q => ?_
    refine T_mono q fun x H1 q => ?_
    obtain ⟨G, v, m1, hv, q⟩ := q
    refine ⟨x, tyA g ty, typV g v, tyW g ty, isTy ty v, rfl, tyA_ok ty, tyx_of C m1 hv, kit_ok C ht v (kn_of hv), ?_⟩
    have q := q H1 (.inl rfl)
    rw [List.any_cons, List.any_nil, Bool.or_false] at q
    exact q
  · obtain ⟨h1, h2, h3⟩ := pa_tys C ht
    refine PE_imp (L2.pe_callB L2.call_isiT gl m PyProof.Rows.boot_isinstance (L2.pa_cons (c_peek C ca ha) (L2.pa_cons (L2.pe_tup h1) L2.pa_nil rfl) (star_one (chk_plain ca).1)) (by decide) db (star_one (chk_plain ca).1) rfl) fun σ H Q q => ?_
    refine T_mono q fun x H1 q => ?_
    obtain ⟨G, v, m1, hv, q⟩ := q
    refine tTys_ok (tys := tys) ?_
    refine ⟨by rw [List.length_map, h2, sizeLine_eq]; exact Nat.le_trans hl (by decide), fun z hz => ?_⟩
    refine ⟨x, z, tys.map (tyA g), typV g v, tys.map (tyW g), tys.any fun ty => isTy ty v, rfl, upd_same, paired_tys tys, ?_, kitAny_ok fun ty hty => h3 ty hty v (kn_of hv), q _ (.inr ⟨z, _, hz, rfl⟩)⟩
    refine tyx_of C (m1.trans (same_upd hz)) ?_
    cases v with
    | lst xs =>
      obtain ⟨b, vs, e, h, r⟩ := hv
      exact ⟨b, vs, e, by rw [upd_ne (L2.ne_of_none h hz)]; exact h, r⟩
    | ins c fs =>
      obtain ⟨kn, b, dx, vs, e, h, r⟩ := hv
      exact ⟨kn, b, dx, vs, e, by rw [upd_ne (L2.ne_of_none h hz)]; exact h, r⟩
    | _ => exact hv
theorem c_isi (C : Cxt g gn Γ N k sc W X) {tys : List Ty} {tp : Bool} {p1 : Pos} (hg : glB sc "isinstance" = true) (ca : chk gn N sc a l = true) (ha : PE X l (T g W (RlO g) (ev Γ a)))
    (ht : (∃ ty, tp = false ∧ tys = [ty] ∧ chkTy gn sc ty t = true) ∨ (∃ l n p2, tp = true ∧ t = .Tuple l n p2 ∧ l.length ≤ 1000 ∧ chkTys gn sc tys l = true)) :
    PE X (.Call (.Name "isinstance" p1) [l, t] [] p) (T g W (RlO g) (ev Γ (.isi a tys tp))) := by
  refine PE_imp (pe_isi C hg ca ha ht) fun σ H Q q => ?_
  obtain ⟨G, s, F, R, p⟩ := q
  have p : Post g W σ G H (Own F) (RlO g) Q ((peek a (ev Γ a) s).bind fun v s' => .ok (.sh (.bl (tys.any fun t => isTy t v))) s') := p
  refine P_bind (f := peek a (ev Γ a)) poor_P R p fun x H1 G1 s1 F1 v _ R1 hv p _ => ?_
  refine ⟨G1, v, R1.sub, hv.2, fun H2 h2 => ?_⟩
  rcases h2 with rfl | ⟨z, u, hz, rfl⟩
  · exact here_sh R1 p rep_bl
  · exact p G1 _ F1 none_ _ ((Stp.new (G := G1) (A := Own F1) hz).sub fun c q => q.elim (fun q => q.elim) .inr) (R1.new hz) (fun _ z => z.elim) ⟨fun _ z => z, _, rfl, rep_bl⟩
theorem t_isi (C : Cxt g gn Γ N k sc W X) {tys : List Ty} {tp : Bool} {p1 : Pos} (hg : glB sc "isinstance" = true) (ca : chk gn N sc a l = true) (ha : PE X l (T g W (RlO g) (ev Γ a)))
    (ht : (∃ ty, tp = false ∧ tys = [ty] ∧ chkTy gn sc ty t = true) ∨ (∃ l n p2, tp = true ∧ t = .Tuple l n p2 ∧ l.length ≤ 1000 ∧ chkTys gn sc tys l = true)) :
    PT X (.Call (.Name "isinstance" p1) [l, t] [] p) (T g W RlB (te Γ (.isi a tys tp))) := by
  refine PT_imp (L2.pt_truth (pe_isi C hg ca ha ht) fun _ => rfl) fun σ H Q q => ?_
  obtain ⟨G, s, F, R, p⟩ := q
  have p : Post g W σ G H (Own F) RlB Q ((peek a (ev Γ a) s).bind fun v s' => .ok (tys.any fun t => isTy t v) s') := p
  refine P_bind (f := peek a (ev Γ a)) poor_P R p fun x H1 G1 s1 F1 v _ R1 hv p _ => ?_
  refine ⟨G1, v, R1.sub, hv.2, fun H2 h2 => ⟨_, rfl, ?_⟩⟩
  rcases h2 with rfl | ⟨z, u, hz, rfl⟩
  · exact here_b R1 p
  · exact p G1 _ F1 none_ _ ((Stp.new (G := G1) (A := Own F1) hz).sub fun c q => q.elim (fun q => q.elim) .inr) (R1.new hz) (fun _ z => z.elim) ⟨fun _ z => z, rfl⟩

/-! ### what loops walk -/
theorem src_enumT {a : Addr} {vs : List V} {xs : List PV} {Pr : Fp} (h : SqT g.K G a vs) (r : Reps g G xs vs) : SrcOk g (IteT g.K a) (enumL 0 xs) Pr G H where
  go := fun G' H' m m1 kp i hi => by
    rw [enumL_len] at hi
    have hj : i < vs.length := by rw [← r.length]; exact hi
    exact ⟨vs, vs[i], sqT_mono (m1.trans m) h, by simp [hj]⟩
  stop := fun G' H' m m1 kp => ⟨vs, sqT_mono (m1.trans m) h, by rw [enumL_len, r.length]⟩
  yld := fun G' H' m m1 kp i x H2 y v ev => by
    obtain ⟨T, z, rfl, n, rfl, y⟩ := y
    obtain ⟨w, ew, rfl⟩ := enumL_get ev
    obtain ⟨u, eu, ru⟩ := r.get ew
    have q := y vs (sqT_mono (m1.trans m) h)
    rw [eu] at q; cases q
    have e0 : ((0 + i : Nat) : Int) = (i : Nat) := by simp
    rw [e0]
    exact pair_new m n (rep_int (i := (i : Nat))) (Rep.mono m1 _ _ ru)
theorem noset (h : chk gn N sc a e = true) (env : PySem.Env) (x : Value) : foldedSetIterable e env x = pure x := by
  cases e <;> first | rfl | (cases a <;> first | exact ff h | (rename_i o es; cases o <;> exact ff h))
theorem noset_call {f : Expr} {ks : List Keyword} (env : PySem.Env) (x : Value) : foldedSetIterable (.Call f ls ks p) env x = pure x := rfl
/-- a sequence that a loop or enumerate opens: its items, and the lock -/
theorem open_of (R : RS g G H s σ F) (C : Cxt g gn Γ N k sc W X) {J1 J2 : PySem.W.Frag → Addr → L2.It} {fx : List PV → List PV} {Q : L2.It → Hp → Prop} (ca : chk gn N sc a l = true)
    (p : Post g W σ G H (Own F) (RlS g) Q ((openSeq a (ev Γ a) s).bind fun p s' => (Res.opt (items p.1) s').bind fun xs s'' => .ok (fx xs, p.2) s''))
    (j1 : ∀ {b vs xs Pr G H}, (∀ G' H', Same G' H' → Same G G' → (∀ a o, Pr a → H a = some o → H' a = some o) → SqL g.K H' b vs) → Reps g G xs vs → SrcOk g (J1 g.K b) (fx xs) Pr G H)
    (j2 : ∀ {b vs xs Pr G H}, SqT g.K G b vs → Reps g G xs vs → SrcOk g (J2 g.K b) (fx xs) Pr G H) :
    tPk g W a (ev Γ a) σ H fun x H1 => ∃ b vs, x = .ref b ∧ ((SqL g.K H1 b vs ∧ Q (J1 g.K b) H1) ∨ (SqT g.K H1 b vs ∧ Q (J2 g.K b) H1)) := by
  have sh : ∀ {G1 H1 : Hp} {s1 : S} {F1 : Nat → Fp} {v : PV} {x : V}, RS g G1 H1 s1 σ F1 → Rep g G1 v x → Post g W σ G1 H1 (Own F1) (RlS g) Q ((Res.opt (items v) s1).bind fun xs s'' => .ok (fx xs, none) s'') →
      ∃ b vs, x = .ref b ∧ ((SqL g.K H1 b vs ∧ Q (J1 g.K b) H1) ∨ (SqT g.K H1 b vs ∧ Q (J2 g.K b) H1)) := by
    intro G1 H1 s1 F1 v x R1 hv p
    cases e : items v with
    | none => rw [e] at p; exact p.elim
    | some xs =>
      rw [e] at p
      cases v with
      | tup ys =>
        cases e
        obtain ⟨b, vs, rfl, h1, r⟩ := hv
        exact ⟨b, vs, rfl, .inr ⟨sqT_mono R1.sub h1, Post.here (a := (fx xs, (none : Lk))) R1 p ⟨fun _ z => z, j2 h1 r⟩⟩⟩
      | lst ys =>
        cases e
        obtain ⟨b, vs, rfl, h1, r⟩ := hv
        exact ⟨b, vs, rfl, .inl ⟨.inl (.inl (R1.sub _ _ h1)), Post.here (a := (fx xs, (none : Lk))) R1 p ⟨fun _ z => z, j1 (fun G' H' m m1 _ => .inl (.inl (m _ _ (m1 _ _ h1)))) r⟩⟩⟩
      | frz ys =>
        cases e
        obtain ⟨b, vs, rfl, h1, r⟩ := hv
        exact ⟨b, vs, rfl, .inl ⟨R1.sub.seq h1, Post.here (a := (fx xs, (none : Lk))) R1 p ⟨fun _ z => z, j1 (fun G' H' m m1 _ => (m1.trans m).seq h1) r⟩⟩⟩
      | _ => cases e
  rcases var_or (g := g) (W := W) a with ⟨i, rfl⟩ | ⟨e1, _, _, _, e5⟩
  · have p : Post g W σ G H (Own F) (RlS g) Q (((Res.opt (getV s i) s).bind fun v s' => (.ok (v, if (getO s i).own then some (i, getO s i) else none) s' : Res (PV × Lk))).bind fun p s' => (Res.opt (items p.1) s').bind fun xs s'' => .ok (fx xs, p.2) s'') := p
    cases hv : getV s i with
    | none => rw [hv] at p; exact p.elim
    | some v =>
      rw [hv] at p
      obtain ⟨hi, x, ex, pk⟩ := R.look hv
      cases ho : (getO s i).own with
      | false =>
        rw [ho] at p
        have p : Post g W σ G H (Own F) (RlS g) Q ((Res.opt (items v) s).bind fun xs s'' => .ok (fx xs, none) s'') := p
        refine ⟨x, ex, sh R ?_ p⟩
        have h := R.at_ i hi
        unfold getV at hv
        cases q : getO s i with
        | emp => rw [q] at hv; cases hv
        | sh w =>
          rw [q] at hv h
          cases hv
          obtain ⟨_, y, ey, r⟩ := h
          rw [ex] at ey; cases ey
          exact r
        | lst xs => rw [q] at ho; cases ho
        | obj c fs => rw [q] at ho; cases ho
        | kls c => rw [q] at hv; cases hv
      | true =>
        rw [ho] at p
        have p : Post g W σ G H (Own F) (RlS g) Q ((Res.opt (items v) s).bind fun xs s'' => .ok (fx xs, some (i, getO s i)) s'') := p
        unfold getV at hv
        cases q : getO s i with
        | emp => rw [q] at hv; cases hv
        | kls c => rw [q] at hv; cases hv
        | sh w => rw [q] at ho; cases ho
        | obj c fs =>
          rw [q] at hv; cases hv
          exact p.elim
        | lst xs =>
          rw [q] at hv p
          cases hv
          have p : Post g W σ G H (Own F) (RlS g) Q (.ok (fx xs, some (i, .lst xs)) s) := p
          obtain ⟨b, vs, rfl, h1, r⟩ := pk
          refine ⟨_, ex, b, vs, rfl, .inl ⟨.inl (.inl h1), Post.here R p ⟨fun _ z => z, q.symm, rfl, hi, fun Pr hPr => j1 (fun G' H' m m1 kp => ?_) r⟩⟩⟩
          rw [ex] at hPr
          obtain ⟨b', vs', e0, ep, h2, _⟩ := hPr
          cases e0
          exact .inl (.inl (kp b _ ((ep b).mpr rfl) h1))
  · rw [e1]
    rw [e5] at p
    have p : Post g W σ G H (Own F) (RlS g) Q ((frzR (ev Γ a s)).bind fun v s' => (Res.opt (items v) s').bind fun xs s'' => .ok (fx xs, none) s'') := by
      have e : ((frzR (ev Γ a s)).bind fun v s' => (Res.opt (items v) s').bind fun xs s'' => (.ok (fx xs, none) s'' : Res (List PV × Lk))) = ((frzR (ev Γ a s)).bind fun v s' => .ok (v, none) s').bind fun p s' => (Res.opt (items p.1) s').bind fun xs s'' => .ok (fx xs, p.2) s'' := by
        cases frzR (ev Γ a s) <;> rfl
      rw [e]; exact p
    exact P_bind (f := fun s => frzR (ev Γ a s)) poor_V R p fun x H1 G1 s1 F1 v _ R1 hv p _ => sh R1 hv.2 p
theorem s_seq (C : Cxt g gn Γ N k sc W X) (ca : chk gn N sc a l = true) (ha : PE X l (T g W (RlO g) (ev Γ a))) : L2.PI X t l (TI g W (srcs Γ (.seq a))) := by
  refine PI_imp (pi_seq (c_pk C ca ha)) fun σ H Q q => ?_
  obtain ⟨G, s, F, R, p⟩ := q
  refine tPk_mono (open_of (J1 := L2.Itl) (J2 := L2.Itt) (fx := id) R C ca p (fun k r => src_list k r) fun h r => src_tup h r) fun x H1 q => ?_
  rw [C.hK]; exact q
theorem s_enum (C : Cxt g gn Γ N k sc W X) {p1 : Pos} (hg : glB sc "enumerate" = true) (ca : chk gn N sc a l = true) (ha : PE X l (T g W (RlO g) (ev Γ a))) (ht : isTup t = true) : L2.PI X t (.Call (.Name "enumerate" p1) [l] [] p) (TI g W (srcs Γ (.enum a))) := by
  obtain ⟨gl, db⟩ := glB_ok C hg
  obtain ⟨tl, n, p3, rfl⟩ := isTup_ok ht
  refine PI_imp (pi_enumA gl C.mgR.2.1 (L2.pa_cons (c_pk C ca ha) L2.pa_nil (star_one (chk_plain ca).1)) (by rw [star_one (chk_plain ca).1]; rfl)) fun σ H Q q => ?_
  obtain ⟨G, s, F, R, p⟩ := q
  refine tPk_mono (open_of (J1 := L2.Ite) (J2 := IteT) (fx := enumL 0) R C ca p (fun k r => src_enum k r) fun h r => src_enumT h r) fun x H1 q => ?_
  obtain ⟨b, vs, e, q⟩ := q
  exact ⟨b, vs, by rw [e], by rw [C.hK]; exact q⟩
theorem rng_bd {a b : Int} (h : rngOk a b = true) : -(2 ^ 62) ≤ a ∧ a < 2 ^ 62 ∧ -(2 ^ 62) ≤ b ∧ b < 2 ^ 62 := by
  unfold rngOk at h
  simp only [Bool.and_eq_true, decide_eq_true_eq] at h
  omega
theorem s_rng (C : Cxt g gn Γ N k sc W X) {p1 : Pos} (hg : glB sc "range" = true) (ca : chk gn N sc a l = true) (ha : PE X l (T g W (RlO g) (ev Γ a))) : L2.PI X t (.Call (.Name "range" p1) [l] [] p) (TI g W (srcs Γ (.rng a))) := by
  obtain ⟨gl, db⟩ := glB_ok C hg
  refine PI_imp (L2.pi_range1 gl C.mgR.1 (L2.pa_cons (PE_frz ha) L2.pa_nil (star_one (chk_plain ca).1)) (by rw [star_one (chk_plain ca).1]; rfl)) fun σ H Q q => ?_
  obtain ⟨G, s, F, R, p⟩ := q
  have p : Post g W σ G H (Own F) (RlS g) Q ((intR (frzR (ev Γ a s))).bind fun n s' => if rngOk 0 n then .ok (rngL 0 n, none) s' else .bad) := p
  have q := P_bind (f := fun s => intR (frzR (ev Γ a s))) (Q2 := fun j H1 => -(2 ^ 62) ≤ j ∧ j < 2 ^ 62 ∧ Q (L2.Itr 0 j.toNat) H1) poor_N R p fun j H1 G1 s1 F1 v _ R1 hv p _ => by
    have ev := hv.2
    subst ev
    cases e : rngOk 0 v with
    | false => rw [e] at p; exact p.elim
    | true =>
      rw [e] at p
      have e := rng_bd e
      refine ⟨e.2.2.1, e.2.2.2, Post.here (a := (rngL 0 v, (none : Lk))) R1 p ⟨fun _ z => z, ?_⟩⟩
      have e3 : (v - 0).toNat = v.toNat := by rw [Int.sub_zero]
      have q := src_rng (g := g) (lo := 0) (hi := v) (Pr := none_) (G := G1) (H := H1)
      rw [e3] at q
      exact q
  obtain ⟨G, s, F, R, p⟩ := q
  refine ⟨G, s, F, R, p.intR.imp fun x H1 q => ?_⟩
  obtain ⟨i, rfl, q1, q2, q3⟩ := q
  exact ⟨i, rfl, q1, q2, q3⟩
theorem s_rng2 (C : Cxt g gn Γ N k sc W X) {p1 : Pos} (hg : glB sc "range" = true) (ca : chk gn N sc a l = true) (cb : chk gn N sc b r = true) (ha : PE X l (T g W (RlO g) (ev Γ a))) (hb : PE X r (T g W (RlO g) (ev Γ b))) :
    L2.PI X t (.Call (.Name "range" p1) [l, r] [] p) (TI g W (srcs Γ (.rng2 a b))) := by
  obtain ⟨gl, db⟩ := glB_ok C hg
  refine PI_imp (L2.pi_range2 gl C.mgR.1 (L2.pa_cons (PE_frz ha) (L2.pa_cons (PE_frz hb) L2.pa_nil (star_one (chk_plain cb).1)) (star_one (chk_plain ca).1)) (by rw [star_one (chk_plain ca).1, star_one (chk_plain cb).1]; rfl) (by rw [star_one (chk_plain cb).1]; rfl)) fun σ H Q q => ?_
  obtain ⟨G, s, F, R, p⟩ := q
  have p : Post g W σ G H (Own F) (RlS g) Q ((intR (frzR (ev Γ a s))).bind fun m s1 => (intR (frzR (ev Γ b s1))).bind fun n s' => if rngOk m n then .ok (rngL m n, none) s' else .bad) := p
  have q := P_bind (f := fun s => intR (frzR (ev Γ a s))) (Q2 := fun i H1 => T g W RlN (fun s => intR (frzR (ev Γ b s))) σ H1 fun j H1 => (-(2 ^ 62) ≤ i ∧ i < 2 ^ 62 ∧ -(2 ^ 62) ≤ j ∧ j < 2 ^ 62) ∧ Q (L2.Itr i (j - i).toNat) H1) poor_N R p fun i H1 G1 s1 F1 u _ R1 hu p _ => by
    have eu := hu.2
    subst eu
    refine P_bind (f := fun s => intR (frzR (ev Γ b s))) poor_N R1 p fun j H1 G1 s1 F1 v _ R1 hv p _ => ?_
    have ev := hv.2
    subst ev
    cases e : rngOk u v with
    | false => rw [e] at p; exact p.elim
    | true =>
      rw [e] at p
      have e := rng_bd e
      exact ⟨e, Post.here (a := (rngL u v, (none : Lk))) R1 p ⟨fun _ z => z, src_rng⟩⟩
  obtain ⟨G, s, F, R, p⟩ := q
  refine ⟨G, s, F, R, p.intR.imp fun x H1 q => ?_⟩
  obtain ⟨i, rfl, G, s, F, R, p⟩ := q
  refine ⟨G, s, F, R, p.intR.imp fun x H1 q => ?_⟩
  obtain ⟨j, rfl, q1, q2⟩ := q
  exact ⟨i, j, rfl, q1, q2⟩
theorem s_zip (C : Cxt g gn Γ N k sc W X) {p1 : Pos} (hg : glB sc "zip" = true) (ca : chk gn N sc a l = true) (cb : chk gn N sc b r = true) (ha : PE X l (T g W (RlO g) (ev Γ a))) (hb : PE X r (T g W (RlO g) (ev Γ b))) (ht : isTup t = true) :
    L2.PI X t (.Call (.Name "zip" p1) [l, r] [] p) (TI g W (srcs Γ (.zip a b))) := by
  obtain ⟨gl, db⟩ := glB_ok C hg
  obtain ⟨tl, n, p3, rfl⟩ := isTup_ok ht
  refine PI_imp (RZ.pi_zipA gl C.mgR.2.2.1 (L2.pa_cons (PE_frz ha) (L2.pa_cons (PE_frz hb) L2.pa_nil (star_one (chk_plain cb).1)) (star_one (chk_plain ca).1)) (star_one (chk_plain ca).1) (by rw [star_one (chk_plain cb).1]; rfl)) fun σ H Q q => ?_
  obtain ⟨G, s, F, R, p⟩ := q
  have p : Post g W σ G H (Own F) (RlS g) Q ((frzR (ev Γ a s)).bind fun x s1 => (frzR (ev Γ b s1)).bind fun y s2 => (Res.opt (zipP x y) s2).bind fun xs s3 => .ok (xs, none) s3) := p
  refine P_bind (f := fun s => frzR (ev Γ a s)) poor_V R p fun x H1 G1 s1 F1 v _ R1 hv p _ => ?_
  refine P_bind (f := fun s => frzR (ev Γ b s)) poor_V R1 p fun y H2 G2 s2 F2 w m2 R2 hw p _ => ?_
  have hv := Rep.mono m2 _ _ hv.2
  have hw := hw.2
  cases e : zipP v w with
  | none => rw [e] at p; exact p.elim
  | some xs =>
    rw [e] at p
    rw [C.hK]
    unfold zipP at e
    split at e
    · cases e
      obtain ⟨b1, vs, rfl, h1, r1⟩ := hv
      obtain ⟨b2, ws, rfl, h2, r2⟩ := hw
      exact ⟨b1, b2, vs, ws, rfl, .inr ⟨sqT_mono R2.sub h1, sqT_mono R2.sub h2, Post.here (a := (_, (none : Lk))) R2 p ⟨fun _ z => z, src_zipT h1 h2 r1 r2⟩⟩⟩
    · cases e
      obtain ⟨b1, vs, rfl, h1, r1⟩ := hv
      obtain ⟨b2, ws, rfl, h2, r2⟩ := hw
      exact ⟨b1, b2, vs, ws, rfl, .inl ⟨.inl (.inl (R2.sub _ _ h1)), .inl (.inl (R2.sub _ _ h2)), Post.here (a := (_, (none : Lk))) R2 p ⟨fun _ z => z, src_zipL (.inl (.inl h1)) (.inl (.inl h2)) r1 r2⟩⟩⟩
    · cases e
end
end PF
set_option Elab.async false
set_option linter.all false
set_option maxRecDepth 100000
set_option maxHeartbeats 4000000
/-! PF, part x: fields, methods, new objects. -/
namespace PF
open PySem PySem.Spec PyProof.Rows
open L2 (V Hp HO upd upd_same upd_ne Same SqL SqT WX PE PT PA PC OpR CallR IxR SlR MtR TruR VK CXT Sp XK TE TA)
/-! ### the machine's side -/
theorem base_ok {o : Expr} {m : Str} {env : PySem.Env} {whole : Sem Value} (h : baseB o = true) : attributeBase o m env whole = whole := by
  cases o <;> try rfl
  rename_i fn args kws pos
  cases fn <;> try rfl
  rename_i id p
  cases args <;> cases kws <;> first | rfl | exact L2.abase_call h
/-- the tree of a method call with few arguments -/
theorem mcall_few {o : Expr} {m : Str} {apos pos : Pos} {args : List Expr} {env : PySem.Env} (hb : baseB o = true) (hp : (backTo pos (starEach args env)).any (·.1) = false) (hn : args.length ≤ 20) (hl : (apos.endLine == pos.line) = true) :
    eval (.Call (.Attribute o m apos) args [] pos) env = (do
      let ov ← eval o env
      standAt apos.atName
      let (f, first) ← holding [ov] (getMethod ov m (do return (← importBound o env).getD true))
      callWith pos f first (backTo pos (starEach args env)) (backToKw pos (keywordEach [] env))) := by
  refine L2.mcall_of (base_ok hb) fun ov => ?_
  have hf : methodCallForm (args.length + ([] : List Keyword).length) (backTo pos (starEach args env)) (backToKw pos (keywordEach [] env)) = true := by
    have e1 : (backTo pos (starEach args env)).all (!·.1) = true := by
      rw [List.all_eq_true]
      intro x hx
      rw [List.any_eq_false] at hp
      simpa using hp x hx
    have e2 : backToKw pos (keywordEach [] env) = [] := rfl
    unfold methodCallForm
    rw [e1, e2]
    simp only [List.all_nil, Bool.and_self, Bool.true_and, List.isEmpty_nil, if_true, Nat.add_zero, List.length_nil]
    exact decide_eq_true (by omega)
  have hc : ∀ z, methodCallPos true o env apos z = (if (!true || apos.endLine == z.line) = true then pure z else methodCallPos true o env apos z) := fun z => by
    by_cases q : (!true || apos.endLine == z.line) = true
    · rw [if_pos q]; unfold methodCallPos; rw [if_pos q]
    · rw [if_neg q]
  unfold methodCall
  rw [hf, hc, hl]
  simp only [Bool.not_true, Bool.false_or, if_true, pure_bind]
  rfl
section
variable {X : L2.Cx} {CX : CXT} {k : Nat} {f C : Addr} {fd : FuncData} {ps : List Str} {sp : Sp} {dvs : List V} {ds : List Value} {E : L2.St → XK} {x m : Str} {p pos apos : Pos} {o e : Expr} {es : List Expr} {ta : TE} {t : TA}
/-- written arguments alone -/
structure Plain (X : L2.Cx) (pos : Pos) (es : List Expr) (t : TA) : Prop where
  pa : PA X es t
  no : (backTo pos (starEach es X.env)).any (·.1) = false
  one : ∀ e r, es = e :: r → starEach (e :: r) X.env = (false, eval e X.env) :: starEach r X.env
  nil : es = [] → ∀ σ H Q, t σ H Q → Q [] H
theorem cwith {fn : Addr} {first : List Value} {pins : List (Addr × Obj)} {σ : L2.St} {H : Hp} {s : Shared} {R : List V → Hp → Prop} {Q : Value → Shared → Prop} (I : L2.Inv X pins σ H s) (kp : PySem.W.keepIn X.K (.ref fn) = true) (ha : Plain X pos es t) (q : t σ H R)
    (h : ∀ us vs H2 s2, L2.Inv X pins σ H2 s2 → L2.Vals vs us → R vs H2 → wpAny (model X.prog X.w) X.A (call (.ref fn) (first ++ us)) Q X.xe s2) : wpAny (model X.prog X.w) X.A (callWith pos (.ref fn) first (backTo pos (starEach es X.env)) []) Q X.xe s := by
  cases es with
  | nil => exact PySem.W.callWith_K0 I.kIn kp (h [] [] H s I .nil (ha.nil rfl _ _ _ q))
  | cons e r =>
    have st := ha.one e r rfl
    have no := ha.no
    rw [st] at no
    refine PySem.W.callWith_K (h₀ := X.base) I.ok.mod.kin kp (L2.thn (ha.pa.run pos pins s σ H _ I q) fun us s2 z => ?_) st (Bool.or_eq_false_iff.mp no).2
    obtain ⟨vs, H2, I2, rv, q2⟩ := z
    exact ⟨I2.kIn, h us vs H2 s2 I2 rv q2⟩
/-- o.m(..) -/
def tMethX (C : Addr) (m : Str) (sp : Sp) (dvs : List V) (E : L2.St → XK) (ta : TE) (t : TA) : TE := fun σ H Q => ta σ H fun x H1 => ∃ a dx fs, x = .ref a ∧ H1 a = some (.ins C dx fs) ∧ fs.lookup m = none ∧ t σ H1 fun vs H2 => sp (x :: (vs ++ dvs)) H2 Q (E σ)
theorem pe_methX (he : PE X o ta) (c : L2.Cls X.K C) (hm : L2.Meth X.K C m f) (F : FnG X.prog X.w X.K X.mg X.base CX k f fd ps sp) (gd : X.A.guards = some []) (hr : L2.Room k X.A) (hb : L2.Binds X.K fd ps ds) (hd : L2.Vals dvs ds) (hx : ∀ σ, L2.PassesAt CX X σ (E σ)) (ha : Plain X pos es t)
    (hob : baseB o = true) (hn : es.length ≤ 20) (hl : (apos.endLine == pos.line) = true) : PE X (.Call (.Attribute o m apos) es [] pos) (tMethX C m sp dvs E ta t) := by
  refine ⟨fun pins s σ H Q I h => ?_⟩
  refine PySem.W.methodCall_KW (L2.thn (he.run pins s σ H _ I h) fun u s1 z => ?_) (mcall_few hob ha.no hn hl)
  obtain ⟨y, H1, I1, ry, a, dx, fs, ey, ea, lk, q⟩ := z
  subst ey
  obtain rfl : u = Value.ref a := ry
  refine L2.getmeth_ok I1 ea c hm lk ?_
  exact cwith I1 hm.kp ha q fun us vs H2 s2 I2 rv q2 => runG (us := .ref a :: us) (vs := .ref a :: vs) F gd hr hb hd (hx σ) I2 (.cons rfl rv) q2
/-- C(..) -/
def tMakeX (C : Addr) (sp : Sp) (dvs : List V) (E : L2.St → XK) (t : TA) : TE := fun σ H Q => t σ H fun vs H1 => ∀ x dx, H1 x = none → H1 dx = none → dx ≠ x →
  sp (.ref x :: (vs ++ dvs)) (upd (upd H1 dx (.own x)) x (.ins C dx [])) (fun v H2 => v = .non ∧ Q (.ref x) H2) (E σ)
theorem makeX {pins : List (Addr × Obj)} {σ : L2.St} {H : Hp} {s : Shared} {Q : VK} {us : List Value} {vs : List V} {E : XK} (M : L2.Mk X.K C f) (F : FnG X.prog X.w X.K X.mg X.base CX k f fd ps sp) (gd : X.A.guards = some []) (hr : L2.Room (k + 1) X.A) (hb : L2.Binds X.K fd ps ds) (hd : L2.Vals dvs ds)
    (hx : L2.PassesAt CX X σ E) (I : L2.Inv X pins σ H s) (r : L2.Vals vs us)
    (h : ∀ x dx, H x = none → H dx = none → dx ≠ x → sp (.ref x :: (vs ++ dvs)) (upd (upd H dx (.own x)) x (.ins C dx [])) (fun v H2 => v = .non ∧ Q (.ref x) H2) E) :
    wpAny (model X.prog X.w) X.A (call (.ref C) us) (L2.EP X pins σ Q) X.xe s := by
  have n1 : H (s.heap.objs.size + 1) = none := I.hok.fresh (Nat.le_succ _)
  have n0 : H s.heap.objs.size = none := I.hok.fresh (Nat.le_refl _)
  have hq := h _ _ n1 n0 (Nat.ne_of_lt (Nat.lt_succ_self _))
  have J := L2.Inv.made (C := C) I
  have rr : L2.Vals (V.ref (s.heap.objs.size + 1) :: (vs ++ dvs)) (Value.ref (s.heap.objs.size + 1) :: (us ++ ds)) := .cons rfl (r.append hd)
  have len : (Value.ref (s.heap.objs.size + 1) :: us ++ ds).length = ps.length := (rr.length.symm.trans (F.len _ _ _ _ hq))
  refine wpAny_call (L2.make_map (f := f) I.kIn M.makes M.init (beq_iff_eq.mp M.fn) ?_)
  refine codeAny_mono (F.run _ X.stack _ _ ⟨Value.ref (s.heap.objs.size + 1) :: us, []⟩ (Value.ref (s.heap.objs.size + 1) :: (us ++ ds)) _ _ E (make_guards gd) (hr.make C us []) (J.env0.make C us []) (hb _ (Value.ref (s.heap.objs.size + 1) :: us) J.kIn len) rr hq) fun res s' z => ?_
  cases res with
  | error er => exact hx pins _ _ er s' J z
  | ok fl =>
    cases fl with
    | ret u =>
      obtain ⟨v, H', J2, rv, ev, q⟩ := J.after z
      subst ev
      exact ⟨rv, V.ref (s.heap.objs.size + 1), H', J2, rfl, q⟩
    | next => exact False.elim z
    | brk => exact False.elim z
    | cont => exact False.elim z
theorem pe_makeX (M : L2.Mk X.K C f) (F : FnG X.prog X.w X.K X.mg X.base CX k f fd ps sp) (gd : X.A.guards = some []) (hr : L2.Room (k + 1) X.A) (hg : L2.Gl X x) (hm : X.mg x = some (.ref C)) (hb : L2.Binds X.K fd ps ds) (hd : L2.Vals dvs ds) (hx : ∀ σ, L2.PassesAt CX X σ (E σ)) (ha : Plain X pos es t)
    (hdb : (x == ("__debug__" : Str)) = false) : PE X (.Call (.Name x p) es [] pos) (tMakeX C sp dvs E t) := by
  refine ⟨fun pins s σ H Q I h => ?_⟩
  refine wpAny_Call_Name_kw (L2.ld_glob I hg hm ?_ hdb)
  exact cwith (first := []) I M.kp ha h fun us vs H2 s2 I2 rv q2 => makeX M F gd hr hb hd (hx σ) I2 rv q2
/-- c(..), c a local name that holds the class -/
def tMakeV (i : Nat) (C : Addr) (sp : Sp) (dvs : List V) (E : L2.St → XK) (t : TA) : TE := fun σ H Q => σ[i]? = some (some (.ref C)) ∧ tMakeX C sp dvs E t σ H Q
theorem pe_makeV {i : Nat} (he : PE X (.Name x p) (L2.tVar i)) (M : L2.Mk X.K C f) (F : FnG X.prog X.w X.K X.mg X.base CX k f fd ps sp) (gd : X.A.guards = some []) (hr : L2.Room (k + 1) X.A) (hb : L2.Binds X.K fd ps ds) (hd : L2.Vals dvs ds) (hx : ∀ σ, L2.PassesAt CX X σ (E σ)) (ha : Plain X pos es t) :
    PE X (.Call (.Name x p) es [] pos) (tMakeV i C sp dvs E t) := by
  refine ⟨fun pins s σ H Q I h => ?_⟩
  refine wpAny_Call_Name_kw (L2.thn (he.run pins s σ H (fun v H1 => v = .ref C ∧ tMakeX C sp dvs E t σ H1 Q) I ⟨_, h.1, rfl, h.2⟩) fun u s1 z => ?_)
  obtain ⟨y, H1, I1, ry, ey, q⟩ := z
  subst ey
  obtain rfl : u = Value.ref C := ry
  exact cwith (first := []) I1 M.kp ha q fun us vs H2 s2 I2 rv q2 => makeX M F gd hr hb hd (hx σ) I2 rv q2
/-- C.m(..), a staticmethod -/
theorem getstat {mc : Value} {A : Around} {Er : Value → Shared → Prop} {pins : List (Addr × Obj)} {σ : L2.St} {H : Hp} {s : Shared} {q0 : Addr} {pl : Sem Bool} {Q : Value × List Value → Shared → Prop} (I : L2.Inv X pins σ H s) (r : ClX.CRead X.K C mc) (c : SMet X.K C mc m q0 f)
    (h : ∀ s', L2.Inv X pins σ H s' → Q (.ref f, []) s') : wpAny (model X.prog X.w) A (getMethod (.ref C) m pl) Q Er s := by
  obtain ⟨rest, hp⟩ := c.rc
  refine PySem.W.method_cls I.kIn r.ga (PySem.W.cls_bind I.kIn r.rd c.at_ ?_)
  exact wpAny_call (PySem.W.sm_get (s := { s with toks := s.toks + 1 }) I.kIn hp (PySem.W.handed_on rfl (h _ (I.tok _))))
def tStatX (C : Addr) (sp : Sp) (dvs : List V) (E : L2.St → XK) (t : TA) : TE := fun σ H Q => t σ H fun vs H2 => sp (vs ++ dvs) H2 Q (E σ)
theorem pe_statX {mc : Value} {q0 : Addr} (hg : L2.Gl X x) (hm : X.mg x = some (.ref C)) (hdb : (x == ("__debug__" : Str)) = false) (r : ClX.CRead X.K C mc) (c : SMet X.K C mc m q0 f) (F : FnG X.prog X.w X.K X.mg X.base CX k f fd ps sp) (gd : X.A.guards = some []) (hr : L2.Room k X.A) (hb : L2.Binds X.K fd ps ds) (hd : L2.Vals dvs ds)
    (hx : ∀ σ, L2.PassesAt CX X σ (E σ)) (ha : Plain X pos es t) (hn : es.length ≤ 20) (hl : (apos.endLine == pos.line) = true) : PE X (.Call (.Attribute (.Name x p) m apos) es [] pos) (tStatX C sp dvs E t) := by
  refine ⟨fun pins s σ H Q I h => ?_⟩
  refine PySem.W.methodCall_KW (L2.ld_glob I hg hm ?_ hdb) (mcall_few rfl ha.no hn hl)
  refine getstat (I.tok _) r c fun s1 I1 => ?_
  exact cwith (first := []) I1 c.kp ha h fun us vs H2 s2 I2 rv q2 => runG F gd hr hb hd (hx σ) I2 rv q2
/-- C.m(..), a classmethod -/
def tClsX (C : Addr) (sp : Sp) (dvs : List V) (E : L2.St → XK) (t : TA) : TE := fun σ H Q => t σ H fun vs H2 => sp (.ref C :: (vs ++ dvs)) H2 Q (E σ)
theorem run_clsX {pins : List (Addr × Obj)} {σ : L2.St} {H : Hp} {s : Shared} {q : Addr} {E : XK} {Q : VK} {us : List Value} {vs : List V} (F : FnG X.prog X.w X.K X.mg X.base CX k f fd ps sp) (gd : X.A.guards = some []) (hr : L2.Room k X.A) (hb : L2.Binds X.K fd ps ds) (hd : L2.Vals dvs ds) (hx : L2.PassesAt CX X σ E)
    (I : L2.Inv X ((q, PySem.W.methodObj (.ref f) (.ref C)) :: pins) σ H s) (r : L2.Vals vs us) (h : sp (.ref C :: (vs ++ dvs)) H Q E) : wpAny (model X.prog X.w) X.A (call (.ref q) us) (L2.EP X pins σ Q) X.xe s := by
  have rr : L2.Vals (V.ref C :: (vs ++ dvs)) (Value.ref C :: (us ++ ds)) := .cons rfl (r.append hd)
  have len : (Value.ref C :: us ++ ds).length = ps.length := rr.length.symm.trans (F.len _ _ _ _ h)
  have z : wpAny (model X.prog X.w) X.A (call (.ref q) us) (L2.EP X ((q, PySem.W.methodObj (.ref f) (.ref C)) :: pins) σ Q) X.xe s := by
    refine wpAny_call (PySem.W.method_call (ClX.pin_at I) (codeAny_mono (F.run X.A X.stack s H ⟨.ref C :: us, []⟩ (.ref C :: (us ++ ds)) _ Q E gd hr I.env0 (hb s (.ref C :: us) I.kIn len) rr h) fun res s' hq => ?_))
    cases res with
    | error er => exact hx _ H s er s' I hq
    | ok fl =>
      cases fl with
      | ret u => exact I.after hq
      | next => exact False.elim hq
      | brk => exact False.elim hq
      | cont => exact False.elim hq
  exact L2.thn z fun _ _ y => ClX.unpinE y
theorem pe_clsX {mc : Value} {q0 : Addr} (hg : L2.Gl X x) (hm : X.mg x = some (.ref C)) (hdb : (x == ("__debug__" : Str)) = false) (r : ClX.CRead X.K C mc) (c : ClX.CMet X.K C mc m q0 f) (F : FnG X.prog X.w X.K X.mg X.base CX k f fd ps sp) (gd : X.A.guards = some []) (hr : L2.Room k X.A) (hb : L2.Binds X.K fd ps ds) (hd : L2.Vals dvs ds)
    (hx : ∀ σ, L2.PassesAt CX X σ (E σ)) (ha : Plain X pos es t) (hn : es.length ≤ 20) (hl : (apos.endLine == pos.line) = true) : PE X (.Call (.Attribute (.Name x p) m apos) es [] pos) (tClsX C sp dvs E t) := by
  refine ⟨fun pins s σ H Q I h => ?_⟩
  refine PySem.W.methodCall_KW (L2.ld_glob I hg hm ?_ hdb) (mcall_few rfl ha.no hn hl)
  refine ClX.getmethcm_ok (I.tok _) r c fun s1 I1 => ?_
  have nb : X.base.get? s.heap.objs.size = none := ClX.base_none I (Nat.le_refl _)
  cases es with
  | nil => exact PySem.W.callWith_M0 (first := []) ⟨ClX.pin_at I1, I1.kIn⟩ c.fi (run_clsX F gd hr hb hd (hx σ) I1 .nil (ha.nil rfl _ _ _ h))
  | cons e rest =>
    have st := ha.one e rest rfl
    have no := ha.no
    rw [st] at no
    refine ClX.callwith_cm I1 nb c.fi (L2.thn (ha.pa.run pos _ s1 σ H _ I1 h) fun us s3 z => ?_) st (Bool.or_eq_false_iff.mp no).2
    obtain ⟨vs, H2, I3, rv, q2⟩ := z
    exact ⟨⟨ClX.pin_at I3, I3.kIn⟩, run_clsX F gd hr hb hd (hx σ) I3 rv q2⟩
end
end PF
set_option Elab.async false
set_option linter.all false
set_option maxRecDepth 100000
set_option maxHeartbeats 4000000
/-! PF, part y: readings of fields, methods, new objects, pop. -/
namespace PF
open PySem PySem.Spec PyProof.Rows
open L2 (V Hp HO upd upd_same upd_ne Same SqL SqT WX PE PT PA PC OpR CallR IxR SlR MtR TruR VK CXT Sp XK TE TA)
theorem zip_look : ∀ {ns : List Str} {vs : List V} {i : Nat} {n : Str} {v : V}, ns.Nodup → ns[i]? = some n → vs[i]? = some v → (ns.zip vs).lookup n = some v
  | [], _, _, _, _, _, h, _ => by simp at h
  | _ :: _, [], _, _, _, _, _, h => by simp at h
  | a :: ns, b :: vs, 0, n, v, nd, h1, h2 => by
    simp at h1 h2
    subst h1 h2
    simp [List.lookup]
  | a :: ns, b :: vs, i + 1, n, v, nd, h1, h2 => by
    have h1 : ns[i]? = some n := by simpa using h1
    have h2 : vs[i]? = some v := by simpa using h2
    have nd := List.nodup_cons.mp nd
    have ne : n ≠ a := fun e => nd.1 (e ▸ List.mem_of_getElem? h1)
    have e : (n == a) = false := by simpa using ne
    rw [List.zip_cons_cons, List.lookup_cons, e]
    exact zip_look nd.2 h1 h2
theorem zip_none : ∀ {ns : List Str} {vs : List V} {n : Str}, n ∉ ns → (ns.zip vs).lookup n = none
  | [], _, _, _ => rfl
  | _ :: _, [], _, _ => rfl
  | a :: ns, b :: vs, n, h => by
    rw [List.mem_cons, not_or] at h
    have e : (n == a) = false := by simpa using h.1
    rw [List.zip_cons_cons, List.lookup_cons, e]
    exact zip_none h.2
section
variable {g : Gm} {gn : GN} {Γ : Env} {N : List Tx} {k : Nat} {sc : Scope} {W : WX} {X : L2.Cx} {σ : L2.St} {H G G' H' : Hp} {a b c : Ex} {l r t x y e : Expr} {p : Pos} {s : S} {F : Nat → Fp} {es : Exs} {ls : List Expr} {P : Fp}
/-- x.f, a field -/
theorem c_fld (C : Cxt g gn Γ N k sc W X) {c i : Nat} {m : Str} (hf : isO (gn.fld c i) m = true) (hb : baseB l = true) (ca : chk gn N sc a l = true) (ha : PE X l (T g W (RlO g) (ev Γ a))) : PE X (.Attribute l m p) (T g W (RlO g) (ev Γ (.fld c i a))) := by
  obtain ⟨t, e1, rfl⟩ := isO_ok hf
  obtain ⟨cl, hn, fo⟩ := C.fld c i t e1
  refine PE_imp (L2.pe_fld (c_peek C ca ha) (base_ok hb)) fun σ H Q q => ?_
  obtain ⟨G, s, F, R, p⟩ := q
  have p : Post g W σ G H (Own F) (RlO g) Q ((peek a (ev Γ a) s).bind fun v s' => valR (Res.opt (fldOf c i v) s')) := p
  refine P_bind (f := peek a (ev Γ a)) poor_P R p fun x H1 G1 s1 F1 v _ R1 hv pp _ => ?_
  clear p
  cases e : fldOf c i v with
  | none => rw [e] at pp; exact pp.elim
  | some z =>
    rw [e] at pp
    cases v with
    | ins c' fs =>
      have e : (if c' = c then fs[i]? else none) = some z := e
      by_cases hc : c' = c
      · subst hc
        rw [if_pos rfl] at e
        obtain ⟨kn, a0, dx, vs, rfl, h1, r⟩ := hv.2
        obtain ⟨w, ew, rw_⟩ := r.get e
        exact ⟨a0, g.cl c', dx, _, w, rfl, h1, cl, fo.no _ (List.mem_of_getElem? hn), zip_look fo.nd hn ew, here_sh R1 pp rw_⟩
      · rw [if_neg hc] at e; cases e
    | _ => cases e
theorem RS.shs (m : Same G H) : ∀ {vs : List PV} {xs : List V}, Reps g G vs xs → RS g G H (shs vs) (xs.map some) (fun _ => none_)
  | [], _, h => by cases (show _ = [] from h); exact RS.nilS m
  | v :: vs, _, h => by
    obtain ⟨x, xs, rfl, h1, h2⟩ := h
    have e : cons1 none_ (fun _ => none_) = fun _ => none_ := by
      funext i
      cases i <;> rfl
    have z := RS.cons (o := .sh v) (P := none_) ⟨fun _ z => z, x, rfl, h1⟩ (RS.shs m h2) fun _ z => z.elim
    rw [e] at z
    exact z
/-- a step that touches nothing of the caller's -/
theorem lift_step {F1 F2 : Nat → Fp} (R : RS g G H s σ F) (n : ∀ a, ¬ Own F1 a) (t : Stp G H (Own F1) G' H' (fun c => P c ∨ Own F2 c)) (m : Same G' H') (d : ∀ c, P c → G' c = none) :
    Stp G H (Own F) G' H' (fun c => P c ∨ Own F c) ∧ RS g G' H' s σ F ∧ ∀ c, P c → G' c = none ∧ ¬ Own F c := by
  refine ⟨⟨t.g, fun a o e _ => t.keep a o e (n a), fun a o e k => (t.gnew a o e k).elim (fun z => (n a z).elim) .inr, fun a z => ?_⟩, R.stp t (fun a _ => n a) m, fun c z => ⟨d c z, fun w => ?_⟩⟩
  · rcases z with z | z
    · exact (t.fnew a (.inl z)).elim (fun w => (n a w).elim) .inr
    · exact .inl z
  · obtain ⟨u, hu⟩ := R.no w
    rcases t.fnew c (.inl z) with q | q
    · exact n c q
    · rw [hu] at q; cases q
theorem spf_of {f : Nat} {ovs : List OV} {ws : List V} {Q : VK} {Fo : Nat → Fp} (R : RS g G H s σ F) (Ro : RS g G H ovs (ws.map some) Fo) (n : ∀ a, ¬ Own Fo a) (p : Post g W σ G H (Own F) (RlO g) Q (callV (Γ.rho f ovs) s)) : SpF g Γ f ws H Q (fun cls d H' => W cls d σ H') := by
  refine ⟨G, ovs, Fo, Ro, ?_⟩
  cases h : Γ.rho f ovs with
  | bad => rw [h] at p; exact p
  | exc e outs =>
    rw [h] at p
    intro G' H' F' d t R' xr
    obtain ⟨t2, R2, _⟩ := lift_step (P := none_) R n (t.sub fun c z => z.elim (fun z => z.elim) id) R'.sub (fun _ z => z.elim)
    exact p G' H' F d (t2.sub fun c z => .inr z) R2 xr
  | ok o outs =>
    rw [h] at p
    intro G' H' F' P z t R' d q
    obtain ⟨t2, R2, d2⟩ := lift_step R n t R'.sub fun c z => (d c z).1
    exact p G' H' F P z t2 R2 d2 q
theorem spf_sh {f : Nat} {vs : List PV} {xs : List V} {Q : VK} (R : RS g G H s σ F) (h : Reps g G vs xs) (p : Post g W σ G H (Own F) (RlO g) Q (callV (Γ.rho f (shs vs)) s)) : SpF g Γ f xs H Q (fun cls d H' => W cls d σ H') :=
  spf_of R (RS.shs R.sub h) (fun a z => own_none z) p
theorem spf_kls {f c : Nat} {vs : List PV} {xs : List V} {Q : VK} (R : RS g G H s σ F) (h : Reps g G vs xs) (p : Post g W σ G H (Own F) (RlO g) Q (callV (Γ.rho f (.kls c :: shs vs)) s)) : SpF g Γ f (.ref (g.cl c) :: xs) H Q (fun cls d H' => W cls d σ H') := by
  refine spf_of (Fo := cons1 none_ (fun _ => none_)) R (RS.cons (o := .kls c) (P := none_) ⟨fun _ z => z, rfl⟩ (RS.shs R.sub h) fun _ z => z.elim) (fun a z => ?_) p
  rcases own_cons z with z | z
  · exact z
  · exact own_none z
/-- a getter lets nothing out -/
theorem spf_calm {f : Nat} {vs : List PV} {xs : List V} {Q : VK} (R : RS g G H s σ F) (h : Reps g G vs xs) (p : Post g W σ G H (Own F) (RlO g) Q (calm_ (Γ.rho f (shs vs)) s)) : SpF g Γ f xs H Q (fun _ _ _ => False) := by
  refine spf_sh (W := fun _ _ _ _ => False) R h ?_
  cases q : Γ.rho f (shs vs) with
  | bad => rw [q] at p; exact p
  | exc e outs => rw [q] at p; exact p.elim
  | ok o outs => rw [q] at p; exact p
theorem spf_new {f c : Nat} {vs : List PV} {xs : List V} {Q : VK} {x dx : Addr} (kn : g.kn c) (R : RS g G H s σ F) (h : Reps g G vs xs) (p : Post g W σ G H (Own F) (RlO g) Q (madeV c (Γ.rho f (.obj c [] :: shs vs)) s)) (hx : H x = none) (hd : H dx = none) (ne : dx ≠ x) :
    SpF g Γ f (.ref x :: xs) (upd (upd H dx (.own x)) x (.ins (g.cl c) dx [])) (fun v H2 => v = .non ∧ Q (.ref x) H2) (fun cls d H' => W cls d σ H') := by
  have R1 : RS g G (upd H dx (.own x)) s σ F := R.new hd
  have hx1 : upd H dx (.own x) x = none := by rw [upd_ne (Ne.symm ne)]; exact hx
  have R2 : RS g G (upd (upd H dx (.own x)) x (.ins (g.cl c) dx [])) s σ F := R1.new hx1
  have up : ∀ {a : Addr}, upd (upd H dx (.own x)) x (.ins (g.cl c) dx []) a = none → H a = none := fun {a} z => by
    by_cases e1 : a = x
    · rw [e1]; exact hx
    · rw [upd_ne e1] at z
      by_cases e2 : a = dx
      · rw [e2]; exact hd
      · rw [upd_ne e2] at z; exact z
  have st : ∀ {a : Addr} {o : HO}, H a = some o → upd (upd H dx (.own x)) x (.ins (g.cl c) dx []) a = some o := fun {a o} z => by
    rw [upd_ne (L2.ne_of_none z hx), upd_ne (L2.ne_of_none z hd)]; exact z
  have hGx : G x = none := R.sub.free hx
  have Ro : RS g G (upd (upd H dx (.own x)) x (.ins (g.cl c) dx [])) (.obj c [] :: shs vs) ((V.ref x :: xs).map some) (cons1 (fun a => a = x) (fun _ => none_)) := by
    refine RS.cons (P := fun a => a = x) ⟨kn, x, dx, [], rfl, fun _ => Iff.rfl, ?_, Reps.nil⟩ (RS.shs R2.sub h) fun a z => ⟨by rw [z]; exact hGx, fun w => own_none w⟩
    rw [upd_same, List.zip_nil_right]
  have ox : ∀ a, Own (cons1 (fun a => a = x) (fun _ => none_)) a → a = x := fun a z => (own_cons z).elim id fun w => (own_none w).elim
  refine ⟨G, _, _, Ro, ?_⟩
  -- what a step behind the start is for the caller
  have lift : ∀ {G' H' : Hp} {F' : Nat → Fp} {P : Fp}, Stp G (upd (upd H dx (.own x)) x (.ins (g.cl c) dx [])) (Own (cons1 (fun a => a = x) (fun _ => none_))) G' H' (fun a => P a ∨ Own F' a) → Same G' H' →
      RS g G' H' s σ F ∧ ∀ Z : Fp, (∀ a, Z a → P a ∨ Own F' a) → Stp G H (Own F) G' H' (fun a => Z a ∨ Own F a) ∧ ∀ a, Z a → ¬ Own F a := by
    intro G' H' F' P t m
    have nw : ∀ a, (P a ∨ Own F' a) → H a = none := fun a z => (t.fnew a z).elim (fun w => by rw [ox a w]; exact hx) up
    refine ⟨R2.stp t (fun a w z => ?_) m, fun Z hZ => ⟨⟨t.g, fun a o e _ => t.keep a o (st e) fun z => ?_, fun a o e q => ?_, fun a z => ?_⟩, fun a z w => ?_⟩⟩
    · obtain ⟨u, hu⟩ := R.no w
      rw [ox a z, hx] at hu; cases hu
    · rw [ox a z, hx] at e; cases e
    · rcases t.gnew a o e q with z | z
      · rw [ox a z]; exact .inr hx
      · exact .inr (up z)
    · rcases z with z | z
      · exact .inr (nw a (hZ a z))
      · exact .inl z
    · obtain ⟨u, hu⟩ := R.no w
      rw [nw a (hZ a z)] at hu; cases hu
  cases q : Γ.rho f (.obj c [] :: shs vs) with
  | bad => rw [q] at p; exact p
  | exc e outs =>
    rw [q] at p
    intro G' H' F' d t R' xr
    obtain ⟨R3, l⟩ := lift (P := none_) (F' := F') (t.sub fun a z => z.elim (fun z => z.elim) id) R'.sub
    obtain ⟨t3, _⟩ := l none_ fun _ z => z.elim
    exact p G' H' F d (t3.sub fun a z => .inr z) R3 xr
  | ok o outs =>
    rw [q] at p
    cases o with
    | sh u =>
      cases u with
      | non =>
        cases outs with
        | nil => exact p.elim
        | cons o1 os =>
          cases o1 with
          | obj c2 fs =>
            have p : Post g W σ G H (Own F) (RlO g) Q (if c2 = c then .ok (.obj c fs) s else .bad) := p
            by_cases hc : c2 = c
            · subst hc
              rw [if_pos rfl] at p
              intro G' H' F' P z t R' d ov
              obtain ⟨np, y, ey, ry⟩ := ov
              cases ey
              refine ⟨ry, ?_⟩
              obtain ⟨R3, l⟩ := lift t R'.sub
              obtain ⟨t3, n3⟩ := l (F' 0) fun a z => .inr ⟨0, z⟩
              have at0 := R'.at_ 0 (by simp)
              exact p G' H' F (F' 0) (.ref x) t3 R3 (fun a z => ⟨R'.fr 0 a z, n3 a z⟩) at0
            · rw [if_neg hc] at p; exact p.elim
          | _ => exact p.elim
      | _ => exact p.elim
    | _ => exact p.elim
end
end PF
set_option Elab.async false
set_option linter.all false
set_option maxRecDepth 100000
set_option maxHeartbeats 4000000
/-! PF, part y2: each of these forms. -/
namespace PF
open PySem PySem.Spec PyProof.Rows
open L2 (V Hp HO upd upd_same upd_ne Same SqL SqT WX PE PT PA PC OpR CallR IxR SlR MtR TruR VK CXT Sp XK TE TA)
section
variable {g : Gm} {gn : GN} {Γ : Env} {N : List Tx} {k : Nat} {sc : Scope} {W : WX} {X : L2.Cx} {σ : L2.St} {H G G' H' : Hp} {a b c : Ex} {l r t x y e : Expr} {p pos : Pos} {s : S} {F : Nat → Fp} {es : Exs} {ls : List Expr} {P : Fp}
theorem plain_of (cs : chks gn N sc es ls = true) (h : PA X ls (T g W (RlVs g) (evs Γ es))) : Plain X pos ls (T g W (RlVs g) (evs Γ es)) where
  pa := h
  no := chks_plain cs _ _
  one := fun e r q => by
    subst q
    cases es with
    | nil => exact ff cs
    | cons a es =>
      have cs : (chk gn N sc a e && chks gn N sc es r) = true := cs
      rw [Bool.and_eq_true] at cs
      exact star_one (chk_plain cs.1).1
  nil := fun q σ H Q z => by
    subst q
    cases es with
    | cons a es => exact ff cs
    | nil =>
      obtain ⟨G, s, F, R, p⟩ := z
      exact Post.here (a := ([] : List PV)) (b := ([] : List V)) R p ⟨fun _ z => z, rfl⟩
theorem mthB_ok {f c : Nat} {kd : MK} {m : Str} (h : mthB gn f c kd m = true) : ∃ t, gn.mth f = some (c, t, kd) ∧ mkS t = m := by
  unfold mthB at h
  split at h
  · rename_i c' t k' e
    simp only [Bool.and_eq_true, decide_eq_true_eq] at h
    obtain ⟨⟨rfl, h2⟩, rfl⟩ := h
    exact ⟨t, e, h2⟩
  · cases h
theorem clsNm_ok (C : Cxt g gn Γ N k sc W X) {c : Nat} (h : clsNm gn sc c e = true) : ∃ x p1, e = .Name x p1 ∧ L2.Gl X x ∧ (x == ("__debug__" : Str)) = false ∧ X.mg x = some (.ref (g.cl c)) := by
  cases e <;> first | exact ff h | skip
  rename_i x p1
  have h : (isO (gn.cls c) x && glB sc x) = true := h
  rw [Bool.and_eq_true] at h
  obtain ⟨t, e1, rfl⟩ := isO_ok h.1
  obtain ⟨gl, db⟩ := glB_ok C h.2
  exact ⟨_, _, rfl, gl, db, (C.cls c t e1).1⟩
theorem passW (C : Cxt g gn Γ N k sc W X) (σ : L2.St) : L2.PassesAt (L2.CX X.prog X.w) X σ (fun cls d H' => W cls d σ H') := L2.passAt C.takes σ
theorem insOf_some {c : Nat} {v : PV} (h : insOf c v = true) : ∃ fs, v = .ins c fs := by
  cases v with
  | ins c' fs =>
    have h : decide (c' = c) = true := h
    rw [decide_eq_true_eq] at h
    subst h
    exact ⟨fs, rfl⟩
  | _ => cases h
theorem lastN_zero (ds : List PV) : lastN 0 ds = [] := by
  unfold lastN
  rw [Nat.sub_zero, List.drop_length]
theorem nos {α : Type} {x : α} {q : Prop} (h : (none : Option α) = some x) : q := by cases h
/-- x.f, a property -/
theorem c_prop (C : Cxt g gn Γ N k sc W X) {f c : Nat} {m : Str} (hm : mthB gn f c .prop m = true) (hd : gn.dfl f 0 = true) (hb : baseB l = true) (ca : chk gn N sc a l = true) (ha : PE X l (T g W (RlO g) (ev Γ a))) :
    PE X (.Attribute l m p) (T g W (RlO g) (ev Γ (.prop f c a))) := by
  obtain ⟨t, e1, rfl⟩ := mthB_ok hm
  obtain ⟨cl, q0, hp⟩ := C.mth f c t .prop e1
  obtain ⟨fd, ps, ds, dvs, hb1, hd1, hr1, F1⟩ := C.dfl f 0 hd
  have h0 := hr1 (fun _ => none)
  rw [lastN_zero] at h0
  cases (show dvs = [] from h0)
  refine PE_imp (propG (E := fun _ _ _ => False) (PE_frz ha) cl hp F1 C.gd (C.room2.mono (by omega)) hb1 hd1 (fun pins σ H s er s' _ z => ?_) (base_ok hb)) fun σ H Q q => ?_
  · obtain ⟨_, _, _, _, _, _, _, _, _, _, _, _, z⟩ := z
    exact z.elim
  · obtain ⟨G, s, F, R, pp⟩ := q
    have pp : Post g W σ G H (Own F) (RlO g) Q ((frzR (ev Γ a s)).bind fun v s' => if insOf c v then calm_ (Γ.rho f (shs [v])) s' else .bad) := pp
    refine P_bind (f := fun s => frzR (ev Γ a s)) poor_V R pp fun x H1 G1 s1 F2 v _ R1 hv p1 _ => ?_
    clear pp
    cases hi : insOf c v with
    | false => rw [hi] at p1; exact p1.elim
    | true =>
      rw [hi] at p1
      have p1 : Post g W σ G1 H1 (Own F2) (RlO g) Q (calm_ (Γ.rho f (shs [v])) s1) := p1
      obtain ⟨fs, rfl⟩ := insOf_some hi
      obtain ⟨_, kn, a0, dx, vs, rfl, h1, r⟩ := hv
      exact ⟨a0, dx, _, rfl, R1.sub _ _ h1, spf_calm R1 (Reps.cons (x := .ins c fs) ⟨kn, a0, dx, vs, rfl, h1, r⟩ Reps.nil) p1⟩
/-- x.m(..) -/
theorem c_meth (C : Cxt g gn Γ N k sc W X) {f c n : Nat} {m : Str} {ap : Pos} (hm : mthB gn f c .meth m = true) (hd : gn.dfl f n = true) (hb : baseB l = true) (hl : (ap.endLine == p.line) = true) (hn : ls.length ≤ 20) (ca : chk gn N sc a l = true) (ha : PE X l (T g W (RlO g) (ev Γ a)))
    (cs : chks gn N sc es ls = true) (hes : PA X ls (T g W (RlVs g) (evs Γ es))) : PE X (.Call (.Attribute l m ap) ls [] p) (T g W (RlO g) (ev Γ (.meth f c n a es))) := by
  obtain ⟨t, e1, rfl⟩ := mthB_ok hm
  obtain ⟨cl, mt, nf⟩ := C.mth f c t .meth e1
  obtain ⟨fd, ps, ds, dvs, hb1, hd1, hr1, F1⟩ := C.dfl f n hd
  refine PE_imp (pe_methX (PE_frz ha) cl mt F1 C.gd C.room hb1 hd1 (passW C) (plain_of cs hes) hb hn hl) fun σ H Q q => ?_
  obtain ⟨G, s, F, R, pp⟩ := q
  have pp : Post g W σ G H (Own F) (RlO g) Q ((frzR (ev Γ a s)).bind fun v s1 => if insOf c v then (evs Γ es s1).bind fun vs s2 => methV Γ f c n v vs s2 else .bad) := pp
  refine P_bind (f := fun s => frzR (ev Γ a s)) poor_V R pp fun x H1 G1 s1 F2 v _ R1 hv p1 _ => ?_
  clear pp
  cases hi : insOf c v with
  | false => rw [hi] at p1; exact p1.elim
  | true =>
    rw [hi] at p1
    have p1 : Post g W σ G1 H1 (Own F2) (RlO g) Q ((evs Γ es s1).bind fun vs s2 => methV Γ f c n v vs s2) := p1
    obtain ⟨fs, rfl⟩ := insOf_some hi
    have hv0 := hv.2
    obtain ⟨_, kn, a0, dx, vs, rfl, h1, r⟩ := hv
    refine ⟨a0, dx, _, rfl, R1.sub _ _ h1, zip_none nf, ?_⟩
    refine P_bind (f := evs Γ es) poor_Vs R1 p1 fun xs H2 G2 s2 F3 ws m2 R2 hws p2 _ => ?_
    clear p1
    have p2 : Post g W σ G2 H2 (Own F3) (RlO g) Q (callV (Γ.rho f (shs (.ins c fs :: (ws ++ lastN n (Γ.dfl f))))) s2) := p2
    exact spf_sh R2 (Reps.cons (Rep.mono m2 _ _ hv0) (hws.2.append (hr1 G2))) p2
theorem c_ext (C : Cxt g gn Γ N k sc W X) {o : XO} (hs : splitX gn N sc o e = some ls) (cs : chks gn N sc es ls = true) (hes : PA X ls (T g W (RlVs g) (evs Γ es))) : PE X e (T g W (RlO g) (ev Γ (.ext o es))) := by
  have sp : ∀ {σ H Q}, T g W (RlO g) (ev Γ (.ext o es)) σ H Q → (∃ G s F, RS g G H s σ F ∧ xok o s = true) ∧ ∀ Q2 : List V → Hp → Prop, (∀ xs H2 G2 s2 F2 ws, RS g G2 H2 s2 σ F2 → Reps g G2 ws xs → Post g W σ G2 H2 (Own F2) (RlO g) Q (xev Γ o ws s2) → Q2 xs H2) → T g W (RlVs g) (evs Γ es) σ H Q2 := by
    intro σ H Q q
    obtain ⟨G, s, F, R, pp⟩ := q
    have pp : Post g W σ G H (Own F) (RlO g) Q (if xok o s then (evs Γ es s).bind fun vs s' => xev Γ o vs s' else .bad) := pp
    cases hx : xok o s with
    | false => rw [hx] at pp; exact pp.elim
    | true =>
      rw [hx] at pp
      have pp : Post g W σ G H (Own F) (RlO g) Q ((evs Γ es s).bind fun vs s' => xev Γ o vs s') := pp
      exact ⟨⟨G, s, F, R, hx⟩, fun Q2 h => P_bind (f := evs Γ es) poor_Vs R pp fun xs H2 G2 s2 F2 ws _ R2 hws p2 _ => h xs H2 G2 s2 F2 ws R2 hws.2 p2⟩
  cases o with
  | stat f c n =>
    cases e <;> first | exact nos hs | skip
    rename_i fn args kws pos
    cases fn <;> first | exact nos hs | skip
    rename_i o1 m ap
    cases kws <;> first | exact nos hs | skip
    have hs : (if mthB gn f c .stat m && clsNm gn sc c o1 && gn.dfl f n && (ap.endLine == pos.line) && decide (args.length ≤ 20) then some args else none) = some ls := hs
    split at hs
    · rename_i hc
      cases hs
      simp only [Bool.and_eq_true, decide_eq_true_eq] at hc
      obtain ⟨⟨⟨⟨h1, h2⟩, h3⟩, h4⟩, h5⟩ := hc
      obtain ⟨t, e1, rfl⟩ := mthB_ok h1
      obtain ⟨x, p1, rfl, gl, db, mg⟩ := clsNm_ok C h2
      obtain ⟨q0, mc, cr, sm⟩ := C.mth f c t .stat e1
      obtain ⟨fd, ps, ds, dvs, hb1, hd1, hr1, F1⟩ := C.dfl f n h3
      refine PE_imp (pe_statX gl mg db cr sm F1 C.gd C.room hb1 hd1 (passW C) (plain_of cs hes) h5 h4) fun σ H Q q => ?_
      exact (sp q).2 _ fun xs H2 G2 s2 F2 ws R2 hws p2 => spf_sh R2 (hws.append (hr1 G2)) p2
    · cases hs
  | kmeth f c n =>
    cases e <;> first | exact nos hs | skip
    rename_i fn args kws pos
    cases fn <;> first | exact nos hs | skip
    rename_i o1 m ap
    cases kws <;> first | exact nos hs | skip
    have hs : (if mthB gn f c .kmeth m && clsNm gn sc c o1 && gn.dfl f n && (ap.endLine == pos.line) && decide (args.length ≤ 20) then some args else none) = some ls := hs
    split at hs
    · rename_i hc
      cases hs
      simp only [Bool.and_eq_true, decide_eq_true_eq] at hc
      obtain ⟨⟨⟨⟨h1, h2⟩, h3⟩, h4⟩, h5⟩ := hc
      obtain ⟨t, e1, rfl⟩ := mthB_ok h1
      obtain ⟨x, p1, rfl, gl, db, mg⟩ := clsNm_ok C h2
      obtain ⟨q0, mc, cr, cm⟩ := C.mth f c t .kmeth e1
      obtain ⟨fd, ps, ds, dvs, hb1, hd1, hr1, F1⟩ := C.dfl f n h3
      refine PE_imp (pe_clsX gl mg db cr cm F1 C.gd C.room hb1 hd1 (passW C) (plain_of cs hes) h5 h4) fun σ H Q q => ?_
      exact (sp q).2 _ fun xs H2 G2 s2 F2 ws R2 hws p2 => spf_kls R2 (hws.append (hr1 G2)) p2
    · cases hs
  | new f c n =>
    cases e <;> first | exact nos hs | skip
    rename_i fn args kws pos
    cases kws <;> first | exact nos hs | skip
    have hs : (if mthB gn f c .init "__init__" && clsNm gn sc c fn && gn.dfl f n then some args else none) = some ls := hs
    split at hs
    · rename_i hc
      cases hs
      simp only [Bool.and_eq_true, decide_eq_true_eq] at hc
      obtain ⟨⟨h1, h2⟩, h3⟩ := hc
      obtain ⟨t, e1, _⟩ := mthB_ok h1
      obtain ⟨x, p1, rfl, gl, db, mg⟩ := clsNm_ok C h2
      obtain ⟨kn, mk⟩ := C.mth f c t .init e1
      obtain ⟨fd, ps, ds, dvs, hb1, hd1, hr1, F1⟩ := C.dfl f n h3
      refine PE_imp (pe_makeX mk F1 C.gd (C.room2.mono (by omega)) gl mg hb1 hd1 (passW C) (plain_of cs hes) db) fun σ H Q q => ?_
      exact (sp q).2 _ fun xs H2 G2 s2 F2 ws R2 hws p2 y dx hy hdx ne => spf_new kn R2 (hws.append (hr1 G2)) p2 hy hdx ne
    · cases hs
  | newK i f c n =>
    cases e <;> first | exact nos hs | skip
    rename_i fn args kws pos
    cases fn <;> first | exact nos hs | skip
    rename_i x p1
    cases kws <;> first | exact nos hs | skip
    have hs : (if mthB gn f c .init "__init__" && isNm N i x && locB sc (fun _ => true) x && noDbg x && gn.dfl f n then some args else none) = some ls := hs
    split at hs
    · rename_i hc
      cases hs
      simp only [Bool.and_eq_true] at hc
      obtain ⟨⟨⟨⟨h1, h2⟩, h3⟩, h4⟩, h5⟩ := hc
      obtain ⟨t, e1, _⟩ := mthB_ok h1
      obtain ⟨kn, mk⟩ := C.mth f c t .init e1
      obtain ⟨fd, ps, ds, dvs, hb1, hd1, hr1, F1⟩ := C.dfl f n h5
      have hv : PE X (.Name x p1) (L2.tVar i) := L2.pe_var (by rw [C.hN]; exact isNm_ok h2) (by
        rcases (locB_ok h3).1 with z | z
        · exact .inl (by rw [C.hsc]; exact z)
        · exact .inr (.inl (by rw [C.hsc]; exact z))) (noDbg_ok h4).1 (noDbg_ok h4).2
      refine PE_imp (pe_makeV hv mk F1 C.gd (C.room2.mono (by omega)) hb1 hd1 (passW C) (plain_of cs hes)) fun σ H Q q => ?_
      obtain ⟨⟨G, s, F, R, hk⟩, z⟩ := sp q
      refine ⟨?_, z _ fun xs H2 G2 s2 F2 ws R2 hws p2 y dx hy hdx ne => spf_new kn R2 (hws.append (hr1 G2)) p2 hy hdx ne⟩
      have hk : klsOf c (getO s i) = true := hk
      have hi : i < s.length := by
        refine Classical.byContradiction fun z => ?_
        rw [getO_out (Nat.le_of_not_lt z)] at hk
        cases hk
      have at_ := R.at_ i hi
      cases ho : getO s i with
      | kls c' =>
        rw [ho] at hk at_
        have hk : decide (c' = c) = true := hk
        rw [decide_eq_true_eq] at hk
        subst hk
        exact at_.2
      | _ => rw [ho] at hk; cases hk
    · cases hs
end
end PF
set_option Elab.async false
set_option linter.all false
set_option maxRecDepth 100000
set_option maxHeartbeats 4000000
/-! PF, part y3: pop; tests of these forms. -/
namespace PF
open PySem PySem.Spec PyProof.Rows
open L2 (V Hp HO upd upd_same upd_ne Same SqL SqT WX PE PT PA PC OpR CallR IxR SlR MtR TruR VK CXT Sp XK TE TA)
section
variable {g : Gm} {gn : GN} {Γ : Env} {N : List Tx} {k : Nat} {sc : Scope} {W : WX} {X : L2.Cx} {σ : L2.St} {H G G' H' : Hp} {a b c : Ex} {l r t x y e : Expr} {p pos : Pos} {s : S} {F : Nat → Fp} {es : Exs} {ls : List Expr} {P : Fp}
theorem put_own {i : Nat} {b : Addr} {u : HO} {o : OV} (R : RS g G H s σ F) (hi : i < s.length) (ew : σ[i]? = some (some (.ref b))) (ep : ∀ c, F i c ↔ c = b) (h : OvR g G (upd H b u) o σ[i]? (F i)) :
    RS g G (upd H b u) (s.set i o) σ F ∧ Stp G H (Own F) G (upd H b u) (Own F) := by
  have hb : F i b := (ep b).mpr rfl
  have hG : G b = none := R.fr i b hb
  refine ⟨⟨by rw [List.length_set]; exact R.len, fun j hj => ?_, R.dis, R.fr, fun j a z => by rw [List.length_set]; exact R.out j a z, fun a v e => by rw [upd_ne (L2.ne_of_none e hG)]; exact R.sub a v e⟩, Same.refl _, fun a v e n => by rw [upd_ne (fun z => n (by rw [z]; exact ⟨i, hb⟩))]; exact e, fun a v e z => (by rw [z] at e; cases e), fun a z => .inl z⟩
  rw [List.length_set] at hj
  rw [getO_set hi]
  by_cases e : j = i
  · subst e; rw [if_pos rfl]; exact h
  · rw [if_neg e]
    refine (R.at_ j hj).frame (Same.refl _) fun a v z ha => ?_
    rw [upd_ne (fun q => e (R.dis j i a z (by rw [q]; exact hb)))]
    exact ha
/-! ### xs.append(e) -/
theorem few_one {cp : Pos} {env : PySem.Env} (h : ∀ a b, y ≠ .Starred a b) : ((backTo cp (starEach [y] env)).all (fun x => !x.1) && (backToKw cp (keywordEach [] env)).all (fun x => x.1.isSome) && decide (([y] : List Expr).length + ([] : List Keyword).length + (if ([] : List Keyword).isEmpty then 0 else 1) < 30)) = true := by
  rw [star_one h]; rfl
theorem at_lst {i : Nat} {xs : List PV} (R : RS g G H s σ F) (hg : getO s i = .lst xs) : i < s.length ∧ ∃ b vs, σ[i]? = some (some (.ref b)) ∧ (∀ c, F i c ↔ c = b) ∧ H b = some (.lst vs) ∧ Reps g G xs vs := by
  have hi : i < s.length := by
    refine Classical.byContradiction fun h => ?_
    rw [getO_out (Nat.le_of_not_lt h)] at hg; cases hg
  have hat := R.at_ i hi
  rw [hg] at hat
  obtain ⟨b, vs, ew, ep, h1, r⟩ := hat
  exact ⟨hi, b, vs, ew, ep, h1, r⟩

theorem Reps.erase {xs : List PV} {vs : List V} (h : Reps g G xs vs) : ∀ i : Nat, Reps g G (xs.eraseIdx i) (vs.eraseIdx i) := by
  intro i
  rw [List.eraseIdx_eq_take_drop_succ, List.eraseIdx_eq_take_drop_succ]
  exact (h.take i).append (h.drop (i + 1))
theorem last_erase {α : Type} : ∀ (xs : List α), xs.eraseIdx (xs.length - 1) = xs.dropLast
  | [] => rfl
  | [_] => rfl
  | a :: b :: r => by
    have z := last_erase (b :: r)
    show a :: (b :: r).eraseIdx ((b :: r).length - 1) = a :: (b :: r).dropLast
    rw [z]
theorem ixN_seq {n k : Nat} {i : Int} (h : ixN n i = some k) : seqIndex? i n = some k ∧ k < n ∧ -(n : Int) ≤ i ∧ i < n := by
  unfold ixN at h
  unfold seqIndex?
  by_cases h0 : 0 ≤ i
  · rw [if_pos h0] at h
    split at h
    · rename_i h1
      cases h
      rw [if_neg (by omega : ¬ i < 0)]
      refine ⟨?_, by omega, by omega, h1⟩
      rw [if_pos (by simp only [Bool.and_eq_true, decide_eq_true_eq]; omega)]
    · cases h
  · rw [if_neg h0] at h
    split at h
    · cases h
      rw [if_pos (by omega : i < 0)]
      refine ⟨?_, by omega, by omega, by omega⟩
      rw [if_pos (by simp only [Bool.and_eq_true, decide_eq_true_eq]; omega)]
    · cases h
theorem varB_ok {i : Nat} (h : varB N sc i e = true) : chk gn N sc (.var i) e = true := by
  cases e <;> exact h
/-- behind a pop -/
theorem pop_out {i : Nat} {j : Option Int} {Q : VK} (R : RS g G H s σ F) (p : Post g W σ G H (Own F) (RlO g) Q (popR i j s)) : ∃ (b : Addr) (vs : List V) (kk : Nat) (z : V), σ[i]? = some (some (.ref b)) ∧ H b = some (.lst vs) ∧ vs.length ≤ big ∧ popN vs.length j = some kk ∧ vs[kk]? = some z ∧ Q z (upd H b (.lst (vs.eraseIdx kk))) := by
  unfold popR at p
  cases hg : getO s i with
  | lst xs =>
    rw [hg] at p
    cases hp : popL xs j with
    | none => simp only [hp] at p; exact p.elim
    | some q =>
      simp only [hp] at p
      unfold popL at hp
      split at hp
      · rename_i hb
        cases hk : popN xs.length j with
        | none => rw [hk] at hp; cases hp
        | some kk =>
          rw [hk] at hp
          cases hx : xs[kk]? with
          | none => simp [hx] at hp
          | some v =>
            simp [hx] at hp
            subst hp
            obtain ⟨hi, b, vs, ew, ep, h1, r⟩ := at_lst R hg
            obtain ⟨z, ez, rz⟩ := r.get hx
            refine ⟨b, vs, kk, z, ew, h1, by rw [← r.length]; exact hb, by rw [← r.length]; exact hk, ez, ?_⟩
            obtain ⟨R2, o2⟩ := put_own R hi ew ep (u := .lst (vs.eraseIdx kk)) (o := .lst (xs.eraseIdx kk)) ⟨b, _, ew, ep, upd_same, r.erase kk⟩
            exact p G _ F none_ z (o2.sub fun c z => z.elim (fun z => z.elim) id) R2 (fun _ z => z.elim) ⟨fun _ z => z, z, rfl, rz⟩
      · cases hp
  | _ => rw [hg] at p; exact p.elim
theorem c_pop (C : Cxt g gn Γ N k sc W X) {i : Nat} {o : Opt} {ap : Pos} {yo : Option Expr} (hl : (ap.endLine == p.line) = true) (cx : varB N sc i x = true) (h1 : oneB ls = some yo) (co : chkO gn N sc o yo = true) (ho : ∀ a, o = .yes a → ∀ y, yo = some y → PE X y (T g W (RlO g) (ev Γ a))) :
    PE X (.Call (.Attribute x "pop" ap) ls [] p) (T g W (RlO g) (ev Γ (.pop i o))) := by
  have cv : chk gn N sc (.var i) x = true := varB_ok cx
  have hbase : attributeBase x "pop" X.env (eval x X.env) = eval x X.env := by
    obtain ⟨z, pz, rfl, _⟩ := chk_var cv
    rfl
  have big63 : (big : Int) < 2 ^ 63 := by decide
  rcases ls with _ | ⟨y, _ | ⟨y2, ls⟩⟩
  · cases h1
    cases o with
    | yes a => exact ff co
    | no =>
      refine PE_imp (L2.pe_bm0 PySem.F.plainAttrs_list PySem.F.slot_list_pop PySem.F.type_list_pop L2.mt_pop (look_name C cv) hbase hl) fun σ H Q q => ?_
      obtain ⟨G, s, F, R, pp⟩ := q
      have pp : Post g W σ G H (Own F) (RlO g) Q (match getO s i with
        | .lst _ => popR i none s
        | _ => .bad) := pp
      have p2 : Post g W σ G H (Own F) (RlO g) Q (popR i none s) := by
        cases hg : getO s i <;> rw [hg] at pp <;> first | exact pp | exact pp.elim
      obtain ⟨b, vs, kk, z, ew, h1, hb, hk, hz, q⟩ := pop_out R p2
      refine ⟨.ref b, ew, .inl ⟨rfl, vs, .inl (.inl h1)⟩, b, vs, z, rfl, rfl, h1, ?_, ?_⟩
      · have hk : (if vs.length = 0 then none else some (vs.length - 1)) = some kk := hk
        split at hk
        · cases hk
        · cases hk; exact hz
      · have hk : (if vs.length = 0 then none else some (vs.length - 1)) = some kk := hk
        split at hk
        · cases hk
        · cases hk
          rw [← last_erase]; exact q
  · cases h1
    cases o with
    | no => exact ff co
    | yes a =>
      have cy : chk gn N sc a y = true := co
      have hy := ho a rfl y rfl
      refine PE_imp (L2.pe_bm PySem.F.plainAttrs_list PySem.F.slot_list_pop PySem.F.type_list_pop L2.mt_popAt (look_name C cv) (L2.pa_cons (PE_frz hy) L2.pa_nil (star_one (chk_plain cy).1)) hbase (few_one (chk_plain cy).1) hl (star_one (chk_plain cy).1) rfl) fun σ H Q q => ?_
      obtain ⟨G, s, F, R, pp⟩ := q
      have pp : Post g W σ G H (Own F) (RlO g) Q (match getO s i with
        | .lst _ => (evO Γ (.yes a) s).bind fun j s' => popR i j s'
        | _ => .bad) := pp
      cases hg : getO s i with
      | lst xs =>
        rw [hg] at pp
        have pp : Post g W σ G H (Own F) (RlO g) Q (((intR (frzR (ev Γ a s))).bind fun j s' => (.ok (some j) s' : Res (Option Int))).bind fun j s' => popR i j s') := pp
        obtain ⟨hi, b, vs, ew, _, h1, _⟩ := at_lst R hg
        refine ⟨.ref b, ew, .inl ⟨rfl, vs, .inl (.inl h1)⟩, ?_⟩
        have e : (((intR (frzR (ev Γ a s))).bind fun j s' => (.ok (some j) s' : Res (Option Int))).bind fun j s' => popR i j s') = (intR (frzR (ev Γ a s))).bind fun j s' => popR i (some j) s' := by
          cases intR (frzR (ev Γ a s)) <;> rfl
        rw [e] at pp
        have q := P_bind (f := fun s => intR (frzR (ev Γ a s))) (Q2 := fun j H1 => L2.rPopAt (.ref b) [.int j] H1 Q) poor_N R pp fun j H1 G1 s1 F1 v _ R1 hv p2 _ => by
          have ev := hv.2
          subst ev
          obtain ⟨b2, ws, kk, z, ew2, h2, hb, hk, hz, q⟩ := pop_out R1 p2
          rw [ew] at ew2
          cases ew2
          obtain ⟨e1, e2, e3, e4⟩ := ixN_seq (show ixN ws.length v = some kk from hk)
          exact ⟨b, ws, v, kk, z, rfl, rfl, h2, by omega, by omega, e1, hz, q⟩
        obtain ⟨G, s, F, R, pp⟩ := q
        refine ⟨G, s, F, R, pp.intR.imp fun x H1 q => ?_⟩
        obtain ⟨j, rfl, q⟩ := q
        exact q
      | _ => rw [hg] at pp; exact pp.elim
  · cases h1
/-! tests -/
theorem t_gen (C : Cxt g gn Γ N k sc W X) {f : S → Res OV} (h : PE X e (T g W (RlO g) f)) (hx : ∀ whole, PySem.isTrue e X.env whole = (do let v ← whole; standAt e.pos; holding [v] (truthy v))) : PT X e (T g W RlB fun s => (frzR (f s)).bind fun v s1 => Res.opt (truth v) s1) := by
  refine PT_imp (L2.pt_truth h hx) fun σ H Q q => ?_
  obtain ⟨G, s, F, R, p⟩ := q
  exact ⟨G, s, F, R, Post.truO C.hK p⟩
end
end PF
set_option Elab.async false
set_option linter.all false
set_option maxRecDepth 100000
set_option maxHeartbeats 4000000
/-! PF, part l: comprehensions; every expression. -/
namespace PF
open PySem PySem.Spec PyProof.Rows
open L2 (V Hp HO upd upd_same upd_ne Same SqL SqT WX PE PT PA PC OpR CallR IxR SlR MtR TruR VK)
abbrev W0 : WX := fun _ _ _ _ => False
section
variable {gn : GN} {N : List Tx} {sc : Scope} {e : Expr}
theorem chk_fld {c i : Nat} {a : Ex} (h : chk gn N sc (.fld c i a) e = true) : ∃ x m p, e = .Attribute x m p ∧ isO (gn.fld c i) m = true ∧ baseB x = true ∧ chk gn N sc a x = true := by
  cases e <;> first | exact ff h | skip
  rename_i x m p
  have h : (isO (gn.fld c i) m && baseB x && chk gn N sc a x) = true := h
  simp only [Bool.and_eq_true] at h
  exact ⟨x, m, p, rfl, h.1.1, h.1.2, h.2⟩
theorem chk_prop {f c : Nat} {a : Ex} (h : chk gn N sc (.prop f c a) e = true) : ∃ x m p, e = .Attribute x m p ∧ mthB gn f c .prop m = true ∧ baseB x = true ∧ gn.dfl f 0 = true ∧ chk gn N sc a x = true := by
  cases e <;> first | exact ff h | skip
  rename_i x m p
  have h : (mthB gn f c .prop m && baseB x && gn.dfl f 0 && chk gn N sc a x) = true := h
  simp only [Bool.and_eq_true] at h
  exact ⟨x, m, p, rfl, h.1.1.1, h.1.1.2, h.1.2, h.2⟩
theorem chk_meth {f c n : Nat} {a : Ex} {es : Exs} (h : chk gn N sc (.meth f c n a es) e = true) : ∃ x m ap l cp, e = .Call (.Attribute x m ap) l [] cp ∧ mthB gn f c .meth m = true ∧ baseB x = true ∧ gn.dfl f n = true ∧ (ap.endLine == cp.line) = true ∧ l.length ≤ 20 ∧ chk gn N sc a x = true ∧ chks gn N sc es l = true := by
  cases e <;> first | exact ff h | skip
  rename_i fn l ks cp
  cases fn <;> first | exact ff h | skip
  rename_i x m ap
  cases ks <;> first | exact ff h | skip
  have h : (mthB gn f c .meth m && baseB x && gn.dfl f n && (ap.endLine == cp.line) && decide (l.length ≤ 20) && chk gn N sc a x && chks gn N sc es l) = true := h
  simp only [Bool.and_eq_true, decide_eq_true_eq] at h
  obtain ⟨⟨⟨⟨⟨⟨h1, h2⟩, h3⟩, h4⟩, h5⟩, h6⟩, h7⟩ := h
  exact ⟨x, m, ap, l, cp, rfl, h1, h2, h3, h4, h5, h6, h7⟩
theorem chk_ext {o : XO} {es : Exs} (h : chk gn N sc (.ext o es) e = true) : ∃ l, splitX gn N sc o e = some l ∧ chks gn N sc es l = true := by
  have h : (match splitX gn N sc o e with
    | some l => chks gn N sc es l
    | none => false) = true := h
  cases q : splitX gn N sc o e with
  | none => rw [q] at h; exact ff h
  | some l => rw [q] at h; exact ⟨l, rfl, h⟩
theorem chk_pop {i : Nat} {o : Opt} (h : chk gn N sc (.pop i o) e = true) : ∃ x ap l cp y, e = .Call (.Attribute x "pop" ap) l [] cp ∧ (ap.endLine == cp.line) = true ∧ varB N sc i x = true ∧ oneB l = some y ∧ chkO gn N sc o y = true := by
  cases e <;> first | exact ff h | skip
  rename_i fn l ks cp
  cases fn <;> first | exact ff h | skip
  rename_i x m ap
  cases ks <;> first | exact ff h | skip
  have h : (decide (m = ("pop" : Str)) && (ap.endLine == cp.line) && varB N sc i x && (match oneB l with
      | some y => chkO gn N sc o y
      | none => false)) = true := h
  simp only [Bool.and_eq_true, decide_eq_true_eq] at h
  obtain ⟨⟨⟨h1, h2⟩, h3⟩, h4⟩ := h
  subst h1
  cases q : oneB l with
  | none => rw [q] at h4; exact ff h4
  | some y => rw [q] at h4; exact ⟨x, ap, l, cp, y, rfl, h2, h3, q, h4⟩
theorem ext_plain {o : XO} {l : List Expr} {env : PySem.Env} (h : splitX gn N sc o e = some l) (whole : Sem Value) : PySem.isTrue e env whole = (do let v ← whole; standAt e.pos; holding [v] (truthy v)) := by
  cases o <;> (cases e <;> first | rfl | exact nos h)
end
section
variable {g : Gm} {gn : GN} {Γ : Env} {N : List Tx} {k : Nat} {sc : Scope} {W : WX} {X : L2.Cx} {σ : L2.St} {H G : Hp} {a b c : Ex} {l r t x y e : Expr} {p : Pos} {s : S} {F : Nat → Fp} {es : Exs} {ls : List Expr}
theorem Cxt.blk (C : Cxt g gn Γ N k sc W X) (s : Shared) (H : Hp) (scope : Scope) (Ca : Addr) (cl : List (Str × Addr)) (fp : List Addr) : Cxt g gn Γ N k (L2.relS scope sc) W0 (X.blk s H scope (compEnvC scope cl Ca X.env) fp) where
  hK := C.hK
  hN := C.hN
  nd := C.nd
  hsc := by
    have h := C.hsc
    show L2.relS scope X.env.scope = _
    rw [h]
  calm := C.calm
  takes := fun u s' ⟨_, _, _, _, _, _, _, _, _, _, _, _, _, _, _, _, w⟩ => w.elim
  room := C.room
  gd := C.gd
  glb := C.glb
  fn := C.fn
  cls := C.cls
  ins := C.ins
  mgB := C.mgB
  mgT := C.mgT
  mgR := C.mgR
  room2 := C.room2
  fld := C.fld
  mth := C.mth
  dfl := C.dfl
  exc := C.exc
  xok := C.xok
  sub := C.sub
theorem asgR_ok {tg : Tg} {v : PV} {s s' : S} {u : Unit} (h : asgR tg v s = .ok u s') : asg tg v s = some s' := by
  unfold asgR at h
  cases q : asg tg v s with
  | none => rw [q] at h; cases h
  | some s1 => rw [q] at h; cases h; rfl
theorem body_of (hK : X.K = g.K) {own : List Nat} {tg : Tg} {elt : Ex} (sub : ∀ i, i ∈ tg.slots → i ∈ own) :
    Body g X.K own tg L2.tYes (T g W0 (RlV g) fun s => frzR (ev Γ elt s)) (fun x st => (asgR tg x st).bind fun _ st' => (frzR (ev Γ elt st')).bind fun y st2 => .ok (some y) st2) := by
  intro v x s1 σ1 G H F K1 K2 R hv h
  dsimp only at h
  cases q : asg tg v s1 with
  | none =>
    have e : asgR tg v s1 = .bad := by unfold asgR; rw [q]
    rw [e] at h
    exact h.elim
  | some s2 =>
    have e : asgR tg v s1 = .ok () s2 := by unfold asgR; rw [q]
    rw [e] at h
    refine asg_of hK tg v x s1 s2 σ1 F _ R hv q fun σ2 F2 R2 l2 n2 o2 => ⟨wipe_eq l2 fun j hj => n2 j fun z => hj (sub j z), ?_⟩
    have hw : L2.wipe σ2 own = L2.wipe σ1 own := wipe_eq l2 fun j hj => n2 j fun z => hj (sub j z)
    refine (if_pos (c := (true = true)) (t := T g W0 (RlV g) (fun s => frzR (ev Γ elt s)) σ2 H K1) (e := K2 H) rfl).mpr ⟨G, s2, F2, R2, ?_⟩
    show Post g W0 σ2 G H (Own F2) (RlV g) K1 (frzR (ev Γ elt s2))
    cases hf : frzR (ev Γ elt s2) with
    | bad => simp only [Res.bind, hf] at h
    | exc e3 s3 => simp only [Res.bind, hf] at h
    | ok y s3 =>
      simp only [Res.bind, hf] at h
      intro G' H' F' P z t R' d r
      exact h G' H' F' σ2 z ((t.sup fun a p => o2 a p).sub fun c q => .inr q) R' hw r.2
theorem body_if (hK : X.K = g.K) {own : List Nat} {tg : Tg} {elt : Ex} (sub : ∀ i, i ∈ tg.slots → i ∈ own) :
    Body g X.K own tg (T g W0 RlB (te Γ c)) (T g W0 (RlV g) fun s => frzR (ev Γ elt s)) (fun x st => (asgR tg x st).bind fun _ st' => (te Γ c st').bind fun k st1 =>
      if k then (frzR (ev Γ elt st1)).bind fun y st2 => .ok (some y) st2 else .ok none st1) := by
  intro v x s1 σ1 G H F K1 K2 R hv h
  dsimp only at h
  cases q : asg tg v s1 with
  | none =>
    have e : asgR tg v s1 = .bad := by unfold asgR; rw [q]
    rw [e] at h
    exact h.elim
  | some s2 =>
    have e : asgR tg v s1 = .ok () s2 := by unfold asgR; rw [q]
    rw [e] at h
    refine asg_of hK tg v x s1 s2 σ1 F _ R hv q fun σ2 F2 R2 l2 n2 o2 => ⟨wipe_eq l2 fun j hj => n2 j fun z => hj (sub j z), ?_⟩
    have hw : L2.wipe σ2 own = L2.wipe σ1 own := wipe_eq l2 fun j hj => n2 j fun z => hj (sub j z)
    refine ⟨G, s2, F2, R2, ?_⟩
    cases ht : te Γ c s2 with
    | bad => simp only [Res.bind, ht] at h
    | exc e3 s3 => simp only [Res.bind, ht] at h
    | ok d s3 =>
      simp only [Res.bind, ht] at h
      intro G3 H3 F3 P3 d' t3 R3 _ hd
      cases hd.2
      cases d with
      | false =>
        rw [if_neg Bool.false_ne_true]
        simp only [Bool.false_eq_true, if_false] at h
        exact h G3 H3 F3 σ2 ((t3.sup fun a p => o2 a p).sub fun c q => .inr q) R3 hw
      | true =>
        rw [if_pos rfl]
        simp only [if_true] at h
        refine ⟨G3, s3, F3, R3, ?_⟩
        show Post g W0 σ2 G3 H3 (Own F3) (RlV g) K1 (frzR (ev Γ elt s3))
        cases hf : frzR (ev Γ elt s3) with
        | bad => simp only [hf, Res.bind] at h
        | exc e3 s3 => simp only [hf, Res.bind] at h
        | ok y s4 =>
          simp only [hf, Res.bind] at h
          intro G' H' F' P z t R' d r
          refine h G' H' F' σ2 z ?_ R' hw r.2
          exact ((t3.sup fun a p => o2 a p).sub fun c q => (.inr q : _ ∨ _)).trans (t.sub fun c q => .inr q)
theorem own_snd {scope : Scope} {own : List Nat} (h : blkB N sc scope own = true) : L2.BlkOk (N.map mkS) sc scope (ownP N own) ∧ (ownP N own).map (·.2) = own := by
  unfold blkB at h
  rw [Bool.and_eq_true, decide_eq_true_eq] at h
  exact ⟨L2.blkOk_by h.1, h.2⟩
theorem c_comp (C : Cxt g gn Γ N k sc W X) {elt : Ex} {tg : Tg} {src : Src} {own : List Nat} {it : Expr} {scope : Scope} (hb : blkB N sc scope own = true) (ht : chkT N (L2.relS scope sc) (fncOf scope) tg t = true) (sub : ∀ i, i ∈ tg.slots → i ∈ own)
    (hs : ∀ env x, foldedSetIterable it env x = pure x) (hi : L2.PI X t it (TI g W (srcs Γ src)))
    (he : ∀ {X' : L2.Cx}, Cxt g gn Γ N k (L2.relS scope sc) W0 X' → PE X' l (T g W0 (RlO g) (ev Γ elt))) : PE X (.ListComp l [⟨t, it, [], 0⟩] scope p) (T g W (RlO g) (ev Γ (.comp elt tg src own))) := by
  obtain ⟨ok, eo⟩ := own_snd hb
  have ok : L2.BlkOk X.N X.env.scope scope (ownP N own) := by rw [C.hN, C.hsc]; exact ok
  refine PE_imp (L2.pe_lc C.calm C.nd hi ok (g := gT X.K tg) (fun s H Ca cl fp => ?_) (fun s H Ca cl fp => L2.pts_nil) (fun s H Ca cl fp => PE_frz (he (C.blk s H scope Ca cl fp))) (hs _)) fun σ H Q q => ?_
  · have C' := C.blk s H scope Ca cl fp
    exact pg_ok (fnc := fncOf scope) C'.hN C'.nd C'.calm (fun x h => h) tg t (by rw [C'.hsc]; exact ht)
  · rw [eo]
    exact comp_of (body_of C.hK sub) q
theorem c_compIf (C : Cxt g gn Γ N k sc W X) {elt : Ex} {tg : Tg} {src : Src} {own : List Nat} {it c' : Expr} {scope : Scope} (hb : blkB N sc scope own = true) (ht : chkT N (L2.relS scope sc) (fncOf scope) tg t = true) (sub : ∀ i, i ∈ tg.slots → i ∈ own)
    (hs : ∀ env x, foldedSetIterable it env x = pure x) (hi : L2.PI X t it (TI g W (srcs Γ src)))
    (he : ∀ {X' : L2.Cx}, Cxt g gn Γ N k (L2.relS scope sc) W0 X' → PE X' l (T g W0 (RlO g) (ev Γ elt))) (hc : ∀ {X' : L2.Cx}, Cxt g gn Γ N k (L2.relS scope sc) W0 X' → PT X' c' (T g W0 RlB (te Γ c))) :
    PE X (.ListComp l [⟨t, it, [c'], 0⟩] scope p) (T g W (RlO g) (ev Γ (.compIf elt tg src c own))) := by
  obtain ⟨ok, eo⟩ := own_snd hb
  have ok : L2.BlkOk X.N X.env.scope scope (ownP N own) := by rw [C.hN, C.hsc]; exact ok
  refine PE_imp (L2.pe_lc C.calm C.nd hi ok (g := gT X.K tg) (fun s H Ca cl fp => ?_) (fun s H Ca cl fp => L2.pts_one (hc (C.blk s H scope Ca cl fp))) (fun s H Ca cl fp => PE_frz (he (C.blk s H scope Ca cl fp))) (hs _)) fun σ H Q q => ?_
  · have C' := C.blk s H scope Ca cl fp
    exact pg_ok (fnc := fncOf scope) C'.hN C'.nd C'.calm (fun x h => h) tg t (by rw [C'.hsc]; exact ht)
  · rw [eo]
    exact comp_of (body_if C.hK sub) q
theorem c_int {i : Int} {n : Nat} : PE X (.Constant (.int i) n p) (T g W (RlO g) (ev Γ (.int i))) := PE_imp L2.pe_int fun σ H Q q => by
  obtain ⟨G, s, F, R, p⟩ := q
  exact here_sh R p rep_int
theorem c_bl {i : Bool} {n : Nat} : PE X (.Constant (.bool i) n p) (T g W (RlO g) (ev Γ (.bl i))) := PE_imp L2.pe_bl fun σ H Q q => by
  obtain ⟨G, s, F, R, p⟩ := q
  exact here_sh R p rep_bl
theorem c_non {n : Nat} : PE X (.Constant .none n p) (T g W (RlO g) (ev Γ .non)) := PE_imp L2.pe_non fun σ H Q q => by
  obtain ⟨G, s, F, R, p⟩ := q
  exact here_sh R p (show Rep g G .non .non from rfl)
theorem c_str {n : Nat} {z : Tx} : PE X (.Constant (.str (mkS z)) n p) (T g W (RlO g) (ev Γ (.str z))) := PE_imp L2.pe_str fun σ H Q q => by
  obtain ⟨G, s, F, R, p⟩ := q
  exact here_sh R p (show Rep g G (.str z) (.str (mkS z)) from rfl)
theorem t_int {i : Int} {n : Nat} : PT X (.Constant (.int i) n p) (T g W RlB (te Γ (.int i))) := PT_imp (L2.pt_truth L2.pe_int fun _ => rfl) fun σ H Q q => by
  obtain ⟨G, s, F, R, p⟩ := q
  exact ⟨_, rfl, here_b R p⟩
theorem t_bl {i : Bool} {n : Nat} : PT X (.Constant (.bool i) n p) (T g W RlB (te Γ (.bl i))) := PT_imp (L2.pt_truth L2.pe_bl fun _ => rfl) fun σ H Q q => by
  obtain ⟨G, s, F, R, p⟩ := q
  exact ⟨_, rfl, here_b R p⟩
theorem t_var (C : Cxt g gn Γ N k sc W X) {i : Nat} (h : chk gn N sc (.var i) e = true) : PT X e (T g W RlB (te Γ (.var i))) := by
  obtain ⟨x, p1, rfl, _⟩ := chk_var h
  refine PT_imp (L2.pt_truth (look_name C h) fun _ => rfl) fun σ H Q q => ?_
  obtain ⟨G, s, F, R, p⟩ := q
  have p : Post g W σ G H (Own F) RlB Q ((Res.opt (getV s i) s).bind fun v s' => Res.opt (truth v) s') := p
  cases hv : getV s i with
  | none => rw [hv] at p; exact p.elim
  | some v =>
    rw [hv] at p
    obtain ⟨_, x, ex, pk⟩ := R.look hv
    obtain ⟨q, e2, p⟩ := Post.opt (o := truth v) (s := s) p
    exact ⟨x, ex, q, tru_of C.hK R.sub pk e2, here_b R p⟩
theorem o_no : L2.PO X none (T g W RlI (evO Γ .no)) := ⟨fun pins s σ H Q I q => L2.po_none.run pins s σ H Q I (by
  obtain ⟨G, s, F, R, p⟩ := q
  exact Post.here (b := (none : Option Int)) R p ⟨fun _ z => z, rfl⟩)⟩
theorem o_yes (ha : PE X l (T g W (RlO g) (ev Γ a))) : L2.PO X (some l) (T g W RlI (evO Γ (.yes a))) := ⟨fun pins s σ H Q I q => (L2.po_some (PE_frz ha)).run pins s σ H Q I (by
  obtain ⟨G, s, F, R, p⟩ := q
  have p : Post g W σ G H (Own F) RlI Q ((intR (frzR (ev Γ a s))).bind fun i s' => .ok (some i) s') := p
  have q := P_bind (f := fun s => intR (frzR (ev Γ a s))) (Q2 := fun i H1 => Q (some i) H1) poor_N R p fun i H1 G1 s1 F1 u _ R1 hu p _ => by
    have eu := hu.2
    subst eu
    exact Post.here (b := some u) R1 p ⟨fun _ z => z, rfl⟩
  obtain ⟨G, s, F, R, p⟩ := q
  exact ⟨G, s, F, R, p.intR⟩)⟩
theorem pw_of_pt {op : BoolOp} {ls : List Expr} {t : L2.TT} (h : PT X (.BoolOp op ls p) t) : L2.PW X (.BoolOp op ls p) t := ⟨fun wh pins s σ H Q I q => h.run pins s σ H Q I q⟩
/-- a comparison's comprehension iterable is no set display -/
theorem chkS_noset : ∀ {src : Src}, chkS gn N sc src e t = true → ∀ env x, foldedSetIterable e env x = pure x
  | .seq a, h => noset (a := a) h
  | .rng a, h => by
    obtain ⟨p1, y, p, rfl, _⟩ := chkS_rng h
    intro env x; rfl
  | .rng2 a b, h => by
    obtain ⟨p1, y, z, p, rfl, _⟩ := chkS_rng2 h
    intro env x; rfl
  | .enum a, h => by
    obtain ⟨p1, y, p, rfl, _⟩ := chkS_enum h
    intro env x; rfl
  | .zip a b, h => by
    obtain ⟨p1, y, z, p, rfl, _⟩ := chkS_zip h
    intro env x; rfl
end
section
variable {g : Gm} {gn : GN} {Γ : Env} {N : List Tx} {k : Nat}
mutual
theorem ev_ok : ∀ (m : Ex) {sc : Scope} {W : WX} {X : L2.Cx} {e : Expr}, Cxt g gn Γ N k sc W X → chk gn N sc m e = true → PE X e (T g W (RlO g) (ev Γ m))
  | .int i, sc, W, X, e, C, h => by obtain ⟨n, p, rfl⟩ := chk_int h; exact c_int
  | .bl i, sc, W, X, e, C, h => by obtain ⟨n, p, rfl⟩ := chk_bl h; exact c_bl
  | .non, sc, W, X, e, C, h => by obtain ⟨n, p, rfl⟩ := chk_non h; exact c_non
  | .str t, sc, W, X, e, C, h => by obtain ⟨n, p, rfl⟩ := chk_str h; exact c_str
  | .var i, sc, W, X, e, C, h => c_var C h
  | .glb i, sc, W, X, e, C, h => c_glb C h
  | .tup es, sc, W, X, e, C, h => by
    obtain ⟨l, n, p, rfl, h1, h2⟩ := chk_tup h
    exact c_tup h1 h2 (evs_ok es C h2)
  | .lst es, sc, W, X, e, C, h => by
    obtain ⟨l, p, rfl, h1, h2⟩ := chk_lst h
    exact c_lst h1 h2 (evs_ok es C h2)
  | .bin o a b, sc, W, X, e, C, h => by
    obtain ⟨l, op, r, p, rfl, h1, h2, h3⟩ := chk_bin h
    exact c_bin C h1 h2 h3 (ev_ok a C h2) (ev_ok b C h3)
  | .neg a, sc, W, X, e, C, h => by
    obtain ⟨l, p, rfl, h1⟩ := chk_neg h
    exact c_neg C (ev_ok a C h1)
  | .cmp o a b, sc, W, X, e, C, h => by
    obtain ⟨l, op, r, p, rfl, h1, h2, h3⟩ := chk_cmp h
    exact c_cmp C h1 h2 h3 (ev_ok a C h2) (ev_ok b C h3)
  | .chn o q a b c, sc, W, X, e, C, h => by
    obtain ⟨l, op, op2, m, r, p, rfl, h1, h2, h3, h4, h5⟩ := chk_chn h
    exact c_chn C h1 h2 (ev_ok a C h3) (ev_ok b C h4) (ev_ok c C h5)
  | .isN ng a, sc, W, X, e, C, h => by
    obtain ⟨l, n, p2, p, rfl, h1⟩ := chk_isN h
    exact c_isN C h1 (ev_ok a C h1)
  | .inn ng a b, sc, W, X, e, C, h => by
    obtain ⟨l, r, p, rfl, h1, h2, h3⟩ := chk_inn h
    exact c_inn C h1 h2 h3 (ev_ok a C h2) (ev_ok b C h3)
  | .not a, sc, W, X, e, C, h => by
    obtain ⟨l, p, rfl, h1⟩ := chk_not h
    exact c_not C h1 (ev_ok a C h1)
  | .and a b, sc, W, X, e, C, h => by
    obtain ⟨x, y, r, p, rfl, h1, h2⟩ := chk_and h
    refine c_and C (ev_ok a C h1) ?_
    rcases h2 with ⟨rfl, h2⟩ | ⟨_, h2⟩
    · exact L2.pe_one (ev_ok b C h2)
    · exact ev_ok b C h2
  | .or a b, sc, W, X, e, C, h => by
    obtain ⟨x, y, r, p, rfl, h1, h2⟩ := chk_or h
    refine c_or C (ev_ok a C h1) ?_
    rcases h2 with ⟨rfl, h2⟩ | ⟨_, h2⟩
    · exact L2.pe_one (ev_ok b C h2)
    · exact ev_ok b C h2
  | .ite c a b, sc, W, X, e, C, h => by
    obtain ⟨t, x, y, p, rfl, h1, h2, h3⟩ := chk_ite h
    exact c_ite (te_ok c C h1) (ev_ok a C h2) (ev_ok b C h3)
  | .ix a b, sc, W, X, e, C, h => by
    obtain ⟨x, i, p, rfl, h1, h2⟩ := chk_ix h
    exact c_ix C h1 h2 (ev_ok a C h1) (ev_ok b C h2)
  | .sl a lo hi, sc, W, X, e, C, h => by
    obtain ⟨x, l, u, p2, p, rfl, h1, h2, h3⟩ := chk_sl h
    exact c_sl C h1 (ev_ok a C h1) (evO_ok lo C h2) (evO_ok hi C h3)
  | .rev a, sc, W, X, e, C, h => by
    obtain ⟨x, n, p1, p2, p3, p, rfl, h1⟩ := chk_rev h
    exact c_rev C h1 (ev_ok a C h1)
  | .call f es, sc, W, X, e, C, h => by
    obtain ⟨x, p1, l, p, rfl, h1, h2, h3⟩ := chk_call h
    exact c_call C h1 h2 h3 (evA_ok es _ 0 C h3)
  | .bi b es, sc, W, X, e, C, h => by
    obtain ⟨p1, l, p, rfl, h1, h2⟩ := chk_bi h
    exact c_bi C h1 h2 (evP_ok es C h2)
  | .isi a tys tp, sc, W, X, e, C, h => by
    obtain ⟨p1, y, t, p, rfl, h1, h2, h3⟩ := chk_isi h
    exact c_isi C h1 h2 (ev_ok a C h2) h3
  | .fld c i a, sc, W, X, e, C, h => by
    obtain ⟨x, m, p, rfl, h1, h2, h3⟩ := chk_fld h
    exact c_fld C h1 h2 h3 (ev_ok a C h3)
  | .prop f c a, sc, W, X, e, C, h => by
    obtain ⟨x, m, p, rfl, h1, h2, h3, h4⟩ := chk_prop h
    exact c_prop C h1 h3 h2 h4 (ev_ok a C h4)
  | .meth f c n a es, sc, W, X, e, C, h => by
    obtain ⟨x, m, ap, l, cp, rfl, h1, h2, h3, h4, h5, h6, h7⟩ := chk_meth h
    exact c_meth C h1 h3 h2 h4 h5 h6 (ev_ok a C h6) h7 (evs_ok es C h7)
  | .ext o es, sc, W, X, e, C, h => by
    obtain ⟨l, h1, h2⟩ := chk_ext h
    exact c_ext C h1 h2 (evs_ok es C h2)
  | .pop i o, sc, W, X, e, C, h => by
    obtain ⟨x, ap, l, cp, y, rfl, h1, h2, h3, h4⟩ := chk_pop h
    cases o with
    | no => exact c_pop C h1 h2 h3 h4 fun a q => by cases q
    | yes a =>
      refine c_pop C h1 h2 h3 h4 fun a' q y' q2 => ?_
      cases q
      subst q2
      exact ev_ok a C h4
  | .comp elt tg src own, sc, W, X, e, C, h => by
    obtain ⟨x, t, it, scope, p, rfl, h1, h2, h3, h4, h5⟩ := chk_comp h
    exact c_comp C h1 h3 h5 (chkS_noset h4) (srcs_ok src C h4) fun C' => ev_ok elt C' h2
  | .compIf elt tg src c own, sc, W, X, e, C, h => by
    obtain ⟨x, t, it, c', scope, p, rfl, h1, h2, h3, h4, h5, h6⟩ := chk_compIf h
    exact c_compIf C h1 h3 h6 (chkS_noset h4) (srcs_ok src C h4) (fun C' => ev_ok elt C' h2) fun C' => te_ok c C' h5
theorem te_ok : ∀ (m : Ex) {sc : Scope} {W : WX} {X : L2.Cx} {e : Expr}, Cxt g gn Γ N k sc W X → chk gn N sc m e = true → PT X e (T g W RlB (te Γ m))
  | .int i, sc, W, X, e, C, h => by obtain ⟨n, p, rfl⟩ := chk_int h; exact t_int
  | .bl i, sc, W, X, e, C, h => by obtain ⟨n, p, rfl⟩ := chk_bl h; exact t_bl
  | .var i, sc, W, X, e, C, h => t_var C h
  | .cmp o a b, sc, W, X, e, C, h => by
    obtain ⟨l, op, r, p, rfl, h1, h2, h3⟩ := chk_cmp h
    exact t_cmp C h1 h2 h3 (ev_ok a C h2) (ev_ok b C h3)
  | .chn o q a b c, sc, W, X, e, C, h => by
    obtain ⟨l, op, op2, m, r, p, rfl, h1, h2, h3, h4, h5⟩ := chk_chn h
    exact t_chn C h1 h2 (ev_ok a C h3) (ev_ok b C h4) (ev_ok c C h5)
  | .isN ng a, sc, W, X, e, C, h => by
    obtain ⟨l, n, p2, p, rfl, h1⟩ := chk_isN h
    exact t_isN C h1 (ev_ok a C h1)
  | .inn ng a b, sc, W, X, e, C, h => by
    obtain ⟨l, r, p, rfl, h1, h2, h3⟩ := chk_inn h
    exact t_inn C h1 h2 h3 (ev_ok a C h2) (ev_ok b C h3)
  | .not a, sc, W, X, e, C, h => by
    obtain ⟨l, p, rfl, h1⟩ := chk_not h
    exact t_not (te_ok a C h1)
  | .and a b, sc, W, X, e, C, h => by
    obtain ⟨x, y, r, p, rfl, h1, h2⟩ := chk_and h
    refine (t_and (te_ok a C h1) ?_).pt
    rcases h2 with ⟨rfl, h2⟩ | ⟨_, h2⟩
    · exact L2.pw_and1 (te_ok b C h2)
    · exact pw_of_pt (te_ok b C h2)
  | .or a b, sc, W, X, e, C, h => by
    obtain ⟨x, y, r, p, rfl, h1, h2⟩ := chk_or h
    refine (t_or (te_ok a C h1) ?_).pt
    rcases h2 with ⟨rfl, h2⟩ | ⟨_, h2⟩
    · exact L2.pw_or1 (te_ok b C h2)
    · exact pw_of_pt (te_ok b C h2)
  | .ite c a b, sc, W, X, e, C, h => by
    obtain ⟨t, x, y, p, rfl, h1, h2, h3⟩ := chk_ite h
    exact t_ite (te_ok c C h1) (te_ok a C h2) (te_ok b C h3)
  | .ix a b, sc, W, X, e, C, h => by
    obtain ⟨x, i, p, rfl, h1, h2⟩ := chk_ix h
    exact t_ix C h1 h2 (ev_ok a C h1) (ev_ok b C h2)
  | .call f es, sc, W, X, e, C, h => by
    obtain ⟨x, p1, l, p, rfl, h1, h2, h3⟩ := chk_call h
    exact t_call C h1 h2 h3 (evA_ok es _ 0 C h3)
  | .bi b es, sc, W, X, e, C, h => by
    obtain ⟨p1, l, p, rfl, h1, h2⟩ := chk_bi h
    exact t_bi C h1 h2 (evP_ok es C h2)
  | .isi a tys tp, sc, W, X, e, C, h => by
    obtain ⟨p1, y, t, p, rfl, h1, h2, h3⟩ := chk_isi h
    exact t_isi C h1 h2 (ev_ok a C h2) h3
  | .fld c i a, sc, W, X, e, C, h => by
    obtain ⟨x, m, p, rfl, h1, h2, h3⟩ := chk_fld h
    exact t_gen C (f := ev Γ (.fld c i a)) (c_fld C h1 h2 h3 (ev_ok a C h3)) fun _ => rfl
  | .prop f c a, sc, W, X, e, C, h => by
    obtain ⟨x, m, p, rfl, h1, h2, h3, h4⟩ := chk_prop h
    exact t_gen C (f := ev Γ (.prop f c a)) (c_prop C h1 h3 h2 h4 (ev_ok a C h4)) fun _ => rfl
  | .meth f c n a es, sc, W, X, e, C, h => by
    obtain ⟨x, m, ap, l, cp, rfl, h1, h2, h3, h4, h5, h6, h7⟩ := chk_meth h
    exact t_gen C (f := ev Γ (.meth f c n a es)) (c_meth C h1 h3 h2 h4 h5 h6 (ev_ok a C h6) h7 (evs_ok es C h7)) fun _ => rfl
  | .ext o es, sc, W, X, e, C, h => by
    obtain ⟨l, h1, h2⟩ := chk_ext h
    exact t_gen C (f := ev Γ (.ext o es)) (c_ext C h1 h2 (evs_ok es C h2)) (ext_plain h1)
  | .pop _ _, sc, W, X, e, C, h => PT_no fun σ H Q ⟨_, _, _, _, p⟩ => p
  | .non, sc, W, X, e, C, h => PT_no fun σ H Q ⟨_, _, _, _, p⟩ => p
  | .str _, sc, W, X, e, C, h => PT_no fun σ H Q ⟨_, _, _, _, p⟩ => p
  | .glb _, sc, W, X, e, C, h => PT_no fun σ H Q ⟨_, _, _, _, p⟩ => p
  | .tup _, sc, W, X, e, C, h => PT_no fun σ H Q ⟨_, _, _, _, p⟩ => p
  | .lst _, sc, W, X, e, C, h => PT_no fun σ H Q ⟨_, _, _, _, p⟩ => p
  | .bin _ _ _, sc, W, X, e, C, h => PT_no fun σ H Q ⟨_, _, _, _, p⟩ => p
  | .neg _, sc, W, X, e, C, h => PT_no fun σ H Q ⟨_, _, _, _, p⟩ => p
  | .sl _ _ _, sc, W, X, e, C, h => PT_no fun σ H Q ⟨_, _, _, _, p⟩ => p
  | .rev _, sc, W, X, e, C, h => PT_no fun σ H Q ⟨_, _, _, _, p⟩ => p
  | .comp _ _ _ _, sc, W, X, e, C, h => PT_no fun σ H Q ⟨_, _, _, _, p⟩ => p
  | .compIf _ _ _ _ _, sc, W, X, e, C, h => PT_no fun σ H Q ⟨_, _, _, _, p⟩ => p
theorem evs_ok : ∀ (es : Exs) {sc : Scope} {W : WX} {X : L2.Cx} {ls : List Expr}, Cxt g gn Γ N k sc W X → chks gn N sc es ls = true → PA X ls (T g W (RlVs g) (evs Γ es))
  | .nil, sc, W, X, ls, C, h => by
    cases ls with
    | nil => exact a_nil
    | cons x r => exact ff h
  | .cons a es, sc, W, X, ls, C, h => by
    cases ls with
    | nil => exact ff h
    | cons x r =>
      have h : (chk gn N sc a x && chks gn N sc es r) = true := h
      rw [Bool.and_eq_true] at h
      exact a_cons h.1 (ev_ok a C h.1) (evs_ok es C h.2)
theorem evP_ok : ∀ (es : Exs) {sc : Scope} {W : WX} {X : L2.Cx} {ls : List Expr}, Cxt g gn Γ N k sc W X → chks gn N sc es ls = true → PA X ls (T g W (RlBi g) (evP Γ es))
  | .nil, sc, W, X, ls, C, h => by
    cases ls with
    | nil => exact b_nil
    | cons x r => exact ff h
  | .cons a es, sc, W, X, ls, C, h => by
    cases ls with
    | nil => exact ff h
    | cons x r =>
      have h : (chk gn N sc a x && chks gn N sc es r) = true := h
      rw [Bool.and_eq_true] at h
      have h3 := evs_ok es C h.2
      cases es with
      | nil =>
        cases r with
        | nil => exact b_one C h.1 (ev_ok a C h.1)
        | cons y r => exact ff h.2
      | cons b es => exact b_cons (r := x) h.1 (ev_ok a C h.1) h3
theorem evA_ok : ∀ (es : Exs) (cs : List Nat) (i : Nat) {sc : Scope} {W : WX} {X : L2.Cx} {ls : List Expr}, Cxt g gn Γ N k sc W X → chks gn N sc es ls = true → PA X ls (T g W (RlCs g) (evA Γ cs i es))
  | .nil, cs, i, sc, W, X, ls, C, h => by
    cases ls with
    | nil => exact g_nil
    | cons x r => exact ff h
  | .cons a es, cs, i, sc, W, X, ls, C, h => by
    cases ls with
    | nil => exact ff h
    | cons x r =>
      have h : (chk gn N sc a x && chks gn N sc es r) = true := h
      rw [Bool.and_eq_true] at h
      exact g_cons C h.1 (ev_ok a C h.1) (evA_ok es cs (i + 1) C h.2)
theorem evO_ok : ∀ (o : Opt) {sc : Scope} {W : WX} {X : L2.Cx} {e : Option Expr}, Cxt g gn Γ N k sc W X → chkO gn N sc o e = true → L2.PO X e (T g W RlI (evO Γ o))
  | .no, sc, W, X, e, C, h => by
    cases e with
    | none => exact o_no
    | some x => exact ff h
  | .yes a, sc, W, X, e, C, h => by
    cases e with
    | none => exact ff h
    | some x => exact o_yes (ev_ok a C h)
theorem srcs_ok : ∀ (src : Src) {sc : Scope} {W : WX} {X : L2.Cx} {e t : Expr}, Cxt g gn Γ N k sc W X → chkS gn N sc src e t = true → L2.PI X t e (TI g W (srcs Γ src))
  | .seq a, sc, W, X, e, t, C, h => s_seq C h (ev_ok a C h)
  | .rng a, sc, W, X, e, t, C, h => by
    obtain ⟨p1, y, p, rfl, h1, h2⟩ := chkS_rng h
    exact s_rng C h1 h2 (ev_ok a C h2)
  | .rng2 a b, sc, W, X, e, t, C, h => by
    obtain ⟨p1, y, z, p, rfl, h1, h2, h3⟩ := chkS_rng2 h
    exact s_rng2 C h1 h2 h3 (ev_ok a C h2) (ev_ok b C h3)
  | .enum a, sc, W, X, e, t, C, h => by
    obtain ⟨p1, y, p, rfl, h1, h2, h3⟩ := chkS_enum h
    exact s_enum C h1 h2 (ev_ok a C h2) h3
  | .zip a b, sc, W, X, e, t, C, h => by
    obtain ⟨p1, y, z, p, rfl, h1, h2, h3, h4⟩ := chkS_zip h
    exact s_zip C h1 h2 h3 (ev_ok a C h2) (ev_ok b C h3) h4
end
end
end PF
set_option Elab.async false
set_option linter.all false
set_option maxRecDepth 100000
set_option maxHeartbeats 2000000
/-! PF, part m: readings of statements. -/
namespace PF
open PySem PySem.Spec PyProof.Rows
open L2 (V Hp HO upd upd_same upd_ne Same SqL SqT WX PE PT PA PC PS PSs OpR CallR IxR SlR MtR TruR VK Ends)
/-- the constant slots hold what they held -/
def Keep (cs : List Nat) (σ0 σ1 : L2.St) : Prop := σ1.length = σ0.length ∧ ∀ j, j ∈ cs → σ1[j]? = σ0[j]?
theorem Keep.refl {cs : List Nat} {σ : L2.St} : Keep cs σ σ := ⟨rfl, fun _ _ => rfl⟩
theorem Keep.trans {cs : List Nat} {a b c : L2.St} (h : Keep cs a b) (k : Keep cs b c) : Keep cs a c := ⟨k.1.trans h.1, fun j hj => (k.2 j hj).trans (h.2 j hj)⟩
theorem Keep.set {cs : List Nat} {σ : L2.St} {i : Nat} {x : Option V} (h : i ∉ cs) : Keep cs σ (σ.set i x) := ⟨by simp, fun j hj => by
  rw [List.getElem?_set_ne]
  intro e; subst e; exact h hj⟩
def PostS (g : Gm) (W : WX) (cs : List Nat) (σ : L2.St) (G H : Hp) (A : Fp) (D : Ends) : Res Fl → Prop
  | .ok .nx s => ∀ G' H' σ' F', Keep cs σ σ' → Stp G H A G' H' (Own F') → RS g G' H' s σ' F' → D.nx σ' H'
  | .ok .bk s => ∀ G' H' σ' F', Keep cs σ σ' → Stp G H A G' H' (Own F') → RS g G' H' s σ' F' → D.bk σ' H'
  | .ok .ct s => ∀ G' H' σ' F', Keep cs σ σ' → Stp G H A G' H' (Own F') → RS g G' H' s σ' F' → D.ct σ' H'
  | .ok (.rt o) s => ∀ G' H' σ' F' P x, Keep cs σ σ' → Stp G H A G' H' (fun c => P c ∨ Own F' c) → RS g G' H' s σ' F' → (∀ c, P c → G' c = none ∧ ¬ Own F' c) → OvR g G' H' o (some (some x)) P → D.rt x H'
  | .exc e s => ∀ G' H' σ' F' d, Keep cs σ σ' → Stp G H A G' H' (Own F') → RS g G' H' s σ' F' → XR g G' e d → W (.ref (g.xcl e.c)) (some d) σ' H'
  | .bad => False
def TS (g : Gm) (W : WX) (cs : List Nat) (f : S → Res Fl) : L2.TS := fun D σ H => ∃ G s F, RS g G H s σ F ∧ PostS g W cs σ G H (Own F) D (f s)
section
variable {g : Gm} {gn : GN} {Γ : Env} {N : List Tx} {k : Nat} {sc : Scope} {W : WX} {X : L2.Cx} {σ σ1 : L2.St} {H G H1 G1 : Hp} {A A1 : Fp} {a b c : Ex} {l r t x y e : Expr} {p : Pos} {s : S} {F : Nat → Fp} {cs : List Nat} {D D' : Ends}
theorem PostS.stp {r : Res Fl} (q : Keep cs σ σ1) (t : Stp G H A G1 H1 A1) (h : PostS g W cs σ G H A D r) : PostS g W cs σ1 G1 H1 A1 D r := by
  cases r with
  | ok f s =>
    cases f with
    | nx => exact fun G' H' σ' F' z k => h G' H' σ' F' (q.trans z) (t.trans k)
    | bk => exact fun G' H' σ' F' z k => h G' H' σ' F' (q.trans z) (t.trans k)
    | ct => exact fun G' H' σ' F' z k => h G' H' σ' F' (q.trans z) (t.trans k)
    | rt o => exact fun G' H' σ' F' P x z k => h G' H' σ' F' P x (q.trans z) (t.trans k)
  | exc e s => exact fun G' H' σ' F' d z k => h G' H' σ' F' d (q.trans z) (t.trans k)
  | bad => exact h
theorem PostS.sup {r : Res Fl} (k : ∀ a, A1 a → A a) (h : PostS g W cs σ G H A D r) : PostS g W cs σ G H A1 D r := by
  cases r with
  | ok f s =>
    cases f with
    | nx => exact fun G' H' σ' F' z t => h G' H' σ' F' z (t.sup k)
    | bk => exact fun G' H' σ' F' z t => h G' H' σ' F' z (t.sup k)
    | ct => exact fun G' H' σ' F' z t => h G' H' σ' F' z (t.sup k)
    | rt o => exact fun G' H' σ' F' P x z t => h G' H' σ' F' P x z (t.sup k)
  | exc e s => exact fun G' H' σ' F' d z t => h G' H' σ' F' d z (t.sup k)
  | bad => exact h
/-- fewer constant slots asked for -/
theorem PostS.weak {r : Res Fl} {cs' : List Nat} (k : ∀ j, j ∈ cs → j ∈ cs') (h : PostS g W cs σ G H A D r) : PostS g W cs' σ G H A D r := by
  have z : ∀ {σ'}, Keep cs' σ σ' → Keep cs σ σ' := fun q => ⟨q.1, fun j hj => q.2 j (k j hj)⟩
  cases r with
  | ok f s =>
    cases f with
    | nx => exact fun G' H' σ' F' q => h G' H' σ' F' (z q)
    | bk => exact fun G' H' σ' F' q => h G' H' σ' F' (z q)
    | ct => exact fun G' H' σ' F' q => h G' H' σ' F' (z q)
    | rt o => exact fun G' H' σ' F' P x q => h G' H' σ' F' P x (z q)
  | exc e s => exact fun G' H' σ' F' d q => h G' H' σ' F' d (z q)
  | bad => exact h
/-- a value, then what is done with it -/
theorem S_bind {α β : Type} {f : S → Res α} {Rl : RL α β} {kk : α → S → Res Fl} {Q2 : β → Hp → Prop} (R : RS g G H s σ F) (p : PostS g W cs σ G H (Own F) D ((f s).bind kk))
    (h : ∀ y H2 G1 s1 F1 w P, Stp G H (Own F) G1 H2 (fun c => P c ∨ Own F1 c) → RS g G1 H2 s1 σ F1 → (∀ c, P c → G1 c = none ∧ ¬ Own F1 c) → Rl σ s1 G1 H2 w y P → PostS g W cs σ G1 H2 (fun c => P c ∨ Own F1 c) D (kk w s1) → Q2 y H2) : T g W Rl f σ H Q2 := by
  refine ⟨G, s, F, R, ?_⟩
  cases hf : f s with
  | bad => rw [hf] at p; exact p
  | exc e s1 =>
    rw [hf] at p
    exact fun G' H' F' d t R' x => p G' H' σ F' d Keep.refl t R' x
  | ok a s1 =>
    rw [hf] at p
    exact fun G' H' F' P b t R1 d q => h b H' G' s1 F' a P t R1 d q ((p : PostS g W cs σ G H (Own F) D (kk a s1)).stp Keep.refl t)
theorem S_bind0 {α β : Type} {f : S → Res α} {Rl : RL α β} {kk : α → S → Res Fl} {Q2 : β → Hp → Prop} (n : Poor Rl) (R : RS g G H s σ F) (p : PostS g W cs σ G H (Own F) D ((f s).bind kk))
    (h : ∀ y H2 G1 s1 F1 w, Stp G H (Own F) G1 H2 (Own F1) → RS g G1 H2 s1 σ F1 → Rl σ s1 G1 H2 w y none_ → PostS g W cs σ G1 H2 (Own F1) D (kk w s1) → Q2 y H2) : T g W Rl f σ H Q2 :=
  S_bind R p fun y H2 G1 s1 F1 w P t R1 d q p => by
    have e := poor_none (n _ _ _ _ _ _ _ q)
    subst e
    exact h y H2 G1 s1 F1 w (t.sub fun _ z => .inr z) R1 q (p.sup fun _ z => .inr z)
theorem PS_imp {st : Stmt} {t t' : L2.TS} (h : PS X st t) (k : ∀ D σ H, t' D σ H → t D σ H) : PS X st t' := ⟨fun pins s σ H D I q => h.run pins s σ H D I (k _ _ _ q)⟩
theorem PSs_imp {st : List Stmt} {t t' : L2.TS} (h : PSs X st t) (k : ∀ D σ H, t' D σ H → t D σ H) : PSs X st t' := ⟨fun pins s σ H D I q => h.run pins s σ H D I (k _ _ _ q)⟩
theorem PS_no {st : Stmt} {t : L2.TS} (h : ∀ D σ H, ¬ t D σ H) : PS X st t := ⟨fun pins s σ H D I q => (h _ _ _ q).elim⟩
theorem nx_here (R : RS g G H s σ F) (p : PostS g W cs σ G H (Own F) D (.ok .nx s)) : D.nx σ H := p G H σ F Keep.refl (Stp.refl) R
theorem swaps_no {o : Option Expr} {n : Nat} {env : PySem.Env} (h : isComp e = false) : swapsWith e o n env = pure false := by
  cases e <;> first | rfl | cases h
/-! ### small statements -/
theorem s_expr {p : Pos} (hn : isComp x = false) (hx : PE X x (T g W (RlO g) (ev Γ a))) : PS X (.Expr x p) (TS g W cs (ex Γ cs (.expr a))) := by
  refine PS_imp (L2.ps_expr (PE_frz hx) (swaps_no hn)) fun D σ H q => ?_
  obtain ⟨G, s, F, R, p⟩ := q
  have p : PostS g W cs σ G H (Own F) D ((frzR (ev Γ a s)).bind fun _ s' => .ok .nx s') := p
  exact S_bind0 (f := fun s => frzR (ev Γ a s)) poor_V R p fun y H2 G1 s1 F1 w t R1 q p => nx_here R1 p
theorem s_ret {p : Pos} (hx : PE X x (T g W (RlO g) (ev Γ a))) : PS X (.Return (some x) p) (TS g W cs (ex Γ cs (.ret a))) := by
  refine PS_imp (L2.ps_ret hx) fun D σ H q => ?_
  obtain ⟨G, s, F, R, p⟩ := q
  have p : PostS g W cs σ G H (Own F) D ((ev Γ a s).bind fun o s' => .ok (.rt o) s') := p
  exact S_bind (f := ev Γ a) R p fun y H2 G1 s1 F1 w P t R1 d q p => p G1 H2 σ F1 P y Keep.refl Stp.refl R1 d q
theorem s_retN {p : Pos} : PS X (.Return none p) (TS g W cs (ex Γ cs .retN)) := PS_imp L2.ps_retN fun D σ H q => by
  obtain ⟨G, s, F, R, p⟩ := q
  exact p G H σ F none_ .non Keep.refl (Stp.refl.sub fun c z => z.elim (fun z => z.elim) id) R (fun _ z => z.elim) ⟨fun _ z => z, .non, rfl, rfl⟩
theorem s_pass {p : Pos} : PS X (.Pass p) (TS g W cs (ex Γ cs .pass)) := PS_imp L2.ps_pass fun D σ H q => by
  obtain ⟨G, s, F, R, p⟩ := q
  exact nx_here R p
theorem s_brk {p : Pos} : PS X (.Break p) (TS g W cs (ex Γ cs .brk)) := PS_imp L2.ps_break fun D σ H q => by
  obtain ⟨G, s, F, R, p⟩ := q
  exact p G H σ F Keep.refl Stp.refl R
theorem s_cont {p : Pos} : PS X (.Continue p) (TS g W cs (ex Γ cs .cont)) := PS_imp L2.ps_continue fun D σ H q => by
  obtain ⟨G, s, F, R, p⟩ := q
  exact p G H σ F Keep.refl Stp.refl R
/-- a slot is stored -/
theorem put_slot {i : Nat} {o : OV} {v : V} {P : Fp} (R : RS g G H s σ F) (d : ∀ c, P c → G c = none ∧ ¬ Own F c) (h : OvR g G H o (some (some v)) P) (hi : i < s.length) :
    RS g G H (s.set i o) (σ.set i (some v)) (updF F i P) ∧ ∀ a, Own (updF F i P) a → P a ∨ Own F a := by
  have hj : i < σ.length := by rw [← R.len]; exact hi
  refine ⟨R.put hi (by simp [hj]; exact h) (by simp) (fun j hne => by simp [List.getElem?_set_ne (Ne.symm hne)]) fun a pa => ⟨(d a pa).1, fun j _ z => (d a pa).2 ⟨j, z⟩⟩, fun a z => ?_⟩
  rcases own_updF z with z | ⟨j, _, z⟩
  · exact .inl z
  · exact .inr ⟨j, z⟩
theorem set_nx {i : Nat} {o : OV} {v : V} {P : Fp} (R : RS g G H s σ F) (d : ∀ c, P c → G c = none ∧ ¬ Own F c) (h : OvR g G H o (some (some v)) P) (p : PostS g W cs σ G H (fun c => P c ∨ Own F c) D (setV cs i o s)) : D.nx (σ.set i (some v)) H := by
  have p : PostS g W cs σ G H (fun c => P c ∨ Own F c) D (if (decide (i < s.length) && !cs.contains i) = true then .ok .nx (s.set i o) else .bad) := p
  cases hc : (decide (i < s.length) && !cs.contains i) with
  | false => rw [hc] at p; exact p.elim
  | true =>
    rw [hc] at p
    rw [Bool.and_eq_true, decide_eq_true_eq] at hc
    obtain ⟨R2, o2⟩ := put_slot R d h hc.1
    have hn : i ∉ cs := by simpa using hc.2
    exact p G H _ _ (Keep.set hn) (Stp.refl.sub fun a z => o2 a z) R2
end
end PF
set_option Elab.async false
set_option linter.all false
set_option maxRecDepth 100000
set_option maxHeartbeats 2000000
/-! PF, part n: stores. -/
namespace PF
open PySem PySem.Spec PyProof.Rows
open L2 (V Hp HO upd upd_same upd_ne Same SqL SqT WX PE PT PA PC PS PSs OpR CallR IxR SlR MtR TruR VK Ends)
structure CxF (g : Gm) (gn : GN) (Γ : Env) (N : List Tx) (k : Nat) (sc : Scope) (W : WX) (X : L2.Cx) : Prop where
  C : Cxt g gn Γ N k sc W X
  po : PassesOwn (model X.prog X.w) X.A X.env X.xe
  fnT : ∀ x, X.fn x = true
  stk : X.stack = X.env :: X.outer
  frm : X.env.frame = some X.env.locals
section
variable {g : Gm} {gn : GN} {Γ : Env} {N : List Tx} {k : Nat} {sc : Scope} {W : WX} {X : L2.Cx} {σ σ1 : L2.St} {H G H1 G1 : Hp} {A A1 : Fp} {a b c : Ex} {l r t x y e : Expr} {p : Pos} {s : S} {F : Nat → Fp} {cs : List Nat} {D D' : Ends}
theorem isNmL_ok {i : Nat} (h : isNmL N sc i e = true) : ∃ x p, e = .Name x p ∧ isNm N i x = true ∧ L2.Loc sc x := by
  cases e <;> first | exact ff h | skip
  rename_i x p
  have h : (isNm N i x && locB sc (fun _ => true) x) = true := h
  rw [Bool.and_eq_true] at h
  exact ⟨x, p, rfl, h.1, (locB_ok h.2).1⟩
theorem set_of {i : Nat} (q : TS g W cs (ex Γ cs (.set (.v i) a)) D σ H) : T g W (RlO g) (ev Γ a) σ H fun x H1 => L2.gName i x σ H1 D.nx := by
  obtain ⟨G, s, F, R, p⟩ := q
  have p : PostS g W cs σ G H (Own F) D ((ev Γ a s).bind fun o s' => setV cs i o s') := p
  exact S_bind (f := ev Γ a) R p fun y H2 G1 s1 F1 w P t R1 d q p => set_nx R1 d q p
theorem sw_eq {elt : Expr} {gs : List Comprehension} {scope : Scope} {pos py : Pos} {y : Str} {n : Nat} {env : PySem.Env} (hk : env.scope.kind = .function) (hs : env.scope = sc) :
    swapsWith (.ListComp elt gs scope pos) (some (.Name y py)) n env = pure (swB sc y py (.ListComp elt gs scope pos)) := by
  subst hs
  have hb : env.blockKind = .function := by unfold Env.blockKind; rw [hk]; rfl
  unfold swapsWith
  have e0 : (ScopeKind.function == ScopeKind.function) = true := rfl
  simp only [hb, Expr.pos, e0, Bool.true_and]
  rfl
theorem s_setPlain (C : CxF g gn Γ N k sc W X) {i : Nat} {x : Str} {px : Pos} (hi : isNm N i x = true) (hx : L2.Loc sc x) (hs : ∀ n, X.env.scope.kind = .function → swapsWith y (some (.Name x px)) n X.env = pure false) (hy : PE X y (T g W (RlO g) (ev Γ a))) :
    PS X (.Assign [.Name x px] y p) (TS g W cs (ex Γ cs (.set (.v i) a))) := by
  refine ⟨fun pins s σ H D I q => ?_⟩
  exact (L2.ps_set (i := i) (pos := p) C.C.nd (by rw [C.C.hN]; exact isNm_ok hi) (by rw [C.C.hsc]; exact hx) hy (hs _ I.ok.kind) (.inl (C.fnT x))).run pins s σ H D I (set_of q)
/-- a comprehension that is stored on its line -/
theorem s_setLc (C : CxF g gn Γ N k sc W X) {i : Nat} {y : Str} {py : Pos} {elt : Ex} {tg : Tg} {src : Src} {own : List Nat} {it : Expr} {scope : Scope} {p2 : Pos} (hi : isNm N i y = true) (hsw : swB sc y py (.ListComp l [⟨t, it, [], 0⟩] scope p2) = true) (hx : sc.names.lookup y = some .local)
    (hb : blkB N sc scope own = true) (ht : chkT N (L2.relS scope sc) (fncOf scope) tg t = true) (sub : ∀ i, i ∈ tg.slots → i ∈ own)
    (hs : ∀ env x, foldedSetIterable it env x = pure x) (hsrc : L2.PI X t it (TI g W (srcs Γ src)))
    (he : ∀ {X' : L2.Cx}, Cxt g gn Γ N k (L2.relS scope sc) W0 X' → PE X' l (T g W0 (RlO g) (ev Γ elt))) : PS X (.Assign [.Name y py] (.ListComp l [⟨t, it, [], 0⟩] scope p2) p) (TS g W cs (ex Γ cs (.set (.v i) (.comp elt tg src own)))) := by
  have C0 := C.C
  obtain ⟨ok, eo⟩ := own_snd hb
  have ok : L2.BlkOk X.N X.env.scope scope (ownP N own) := by rw [C0.hN, C0.hsc]; exact ok
  refine ⟨fun pins s σ H D I q => ?_⟩
  refine (L2.ps_setLc (i := i) (spos := p) C0.calm C0.nd (by rw [C0.hN]; exact isNm_ok hi) (by rw [C0.hsc]; exact hx) (by rw [sw_eq I.ok.kind C0.hsc, hsw]) hsrc ok (g := gT X.K tg) (fun s H Ca cl fp => ?_) (fun s H Ca cl fp => L2.pts_nil) (fun s H Ca cl fp => PE_frz (he (C0.blk s H scope Ca cl fp))) (hs _)).run pins s σ H D I ?_
  · have C' := C0.blk s H scope Ca cl fp
    exact pg_ok (fnc := fncOf scope) C'.hN C'.nd C'.calm (fun x h => h) tg t (by rw [C'.hsc]; exact ht)
  · rw [eo]
    exact comp_of (body_of C0.hK sub) (set_of q)
theorem s_setLcIf (C : CxF g gn Γ N k sc W X) {i : Nat} {y : Str} {py : Pos} {elt : Ex} {tg : Tg} {src : Src} {own : List Nat} {it c' : Expr} {scope : Scope} {p2 : Pos} (hi : isNm N i y = true) (hsw : swB sc y py (.ListComp l [⟨t, it, [c'], 0⟩] scope p2) = true) (hx : sc.names.lookup y = some .local)
    (hb : blkB N sc scope own = true) (ht : chkT N (L2.relS scope sc) (fncOf scope) tg t = true) (sub : ∀ i, i ∈ tg.slots → i ∈ own)
    (hs : ∀ env x, foldedSetIterable it env x = pure x) (hsrc : L2.PI X t it (TI g W (srcs Γ src)))
    (he : ∀ {X' : L2.Cx}, Cxt g gn Γ N k (L2.relS scope sc) W0 X' → PE X' l (T g W0 (RlO g) (ev Γ elt))) (hc : ∀ {X' : L2.Cx}, Cxt g gn Γ N k (L2.relS scope sc) W0 X' → PT X' c' (T g W0 RlB (te Γ c))) :
    PS X (.Assign [.Name y py] (.ListComp l [⟨t, it, [c'], 0⟩] scope p2) p) (TS g W cs (ex Γ cs (.set (.v i) (.compIf elt tg src c own)))) := by
  have C0 := C.C
  obtain ⟨ok, eo⟩ := own_snd hb
  have ok : L2.BlkOk X.N X.env.scope scope (ownP N own) := by rw [C0.hN, C0.hsc]; exact ok
  refine ⟨fun pins s σ H D I q => ?_⟩
  refine (L2.ps_setLc (i := i) (spos := p) C0.calm C0.nd (by rw [C0.hN]; exact isNm_ok hi) (by rw [C0.hsc]; exact hx) (by rw [sw_eq I.ok.kind C0.hsc, hsw]) hsrc ok (g := gT X.K tg) (fun s H Ca cl fp => ?_) (fun s H Ca cl fp => L2.pts_one (hc (C0.blk s H scope Ca cl fp))) (fun s H Ca cl fp => PE_frz (he (C0.blk s H scope Ca cl fp))) (hs _)).run pins s σ H D I ?_
  · have C' := C0.blk s H scope Ca cl fp
    exact pg_ok (fnc := fncOf scope) C'.hN C'.nd C'.calm (fun x h => h) tg t (by rw [C'.hsc]; exact ht)
  · rw [eo]
    exact comp_of (body_if C0.hK sub) (set_of q)
theorem lc_line {x : Str} {px : Pos} {elt : Expr} {gs : List Comprehension} {scope : Scope} {pos : Pos} (h : swB sc x px (.ListComp elt gs scope pos) = true) : sc.names.lookup x = some .local := by
  have h : ((sc.names.lookup x == some .local) && (px.line == pos.line) && !(scope.names.any fun y => y.1 == x && (y.2 == .local || y.2 == .cell))) = true := h
  rw [Bool.and_eq_true, Bool.and_eq_true] at h
  exact beq_iff_eq.mp h.1.1
/-- name = e, whatever e -/
theorem s_setV (C : CxF g gn Γ N k sc W X) {i : Nat} {x : Str} {px : Pos} (hi : isNm N i x = true) (hx : L2.Loc sc x) (hl : lone y = true) (cy : chk gn N sc a y = true) : PS X (.Assign [.Name x px] y p) (TS g W cs (ex Γ cs (.set (.v i) a))) := by
  have hy := ev_ok a C.C cy
  by_cases hc : ∃ elt gs scope pos, y = .ListComp elt gs scope pos
  · obtain ⟨elt, gs, scope, pos, rfl⟩ := hc
    cases hb : swB sc x px (.ListComp elt gs scope pos) with
    | false => exact s_setPlain C hi hx (fun n hk => by rw [sw_eq hk C.C.hsc, hb]) hy
    | true =>
      have hloc := lc_line hb
      cases a with
      | comp m tg src own =>
        obtain ⟨z, t, it, sc2, p2, e1, h1, h2, h3, h4, h5⟩ := chk_comp cy
        cases e1
        exact s_setLc C hi hb hloc h1 h3 h5 (chkS_noset h4) (srcs_ok src C.C h4) fun C' => ev_ok m C' h2
      | compIf m tg src c own =>
        obtain ⟨z, t, it, c', sc2, p2, e1, h1, h2, h3, h4, h5, h6⟩ := chk_compIf cy
        cases e1
        exact s_setLcIf C hi hb hloc h1 h3 h6 (chkS_noset h4) (srcs_ok src C.C h4) (fun C' => ev_ok m C' h2) fun C' => te_ok c C' h5
      | ext o es => cases o <;> exact ff cy
      | _ => exact ff cy
  · have hn : isComp y = false := by
      cases y <;> first | rfl | exact absurd ⟨_, _, _, _, rfl⟩ hc | exact ff hl
    exact s_setPlain C hi hx (fun n hk => swaps_no hn) hy
theorem swapped_no {tg : Expr} {env : PySem.Env} (h : notTup y = true) : swappedStores [tg] y env = pure none := by
  cases y <;> first | exact ff h | (cases tg <;> rfl)
theorem swaps_tup {es : List Expr} {n m : Nat} {pt : Pos} {env : PySem.Env} (h : lone y = true) (hn : isComp y = false ∨ ∃ elt gs scope pos, y = .ListComp elt gs scope pos) : swapsWith y (some (.Tuple es n pt)) m env = pure false := by
  rcases hn with hn | ⟨elt, gs, scope, pos, rfl⟩
  · exact swaps_no hn
  · rfl
/-- a, b = e -/
theorem filt_lt {α β : Type} (f : α → Option β) : ∀ (l : List α), (l.any fun x => (f x).isNone) = true → (l.filterMap f).length < l.length
  | [], h => by cases h
  | x :: l, h => by
    rw [List.any_cons, Bool.or_eq_true] at h
    have le := List.length_filterMap_le f l
    cases q : f x with
    | none => rw [List.filterMap_cons_none q, List.length_cons]; omega
    | some y =>
      rw [List.filterMap_cons_some q, List.length_cons, List.length_cons]
      have h : (l.any fun x => (f x).isNone) = true := by
        rcases h with h | h
        · rw [q] at h; cases h
        · exact h
      have := filt_lt f l h
      omega
theorem swapped_cell {ts : List Expr} {n : Nat} {pt : Pos} {env : PySem.Env} (h : (ts.any fun t => !isLocal env.scope t) = true) : swappedStores [.Tuple ts n pt] y env = pure none := by
  cases y <;> try rfl
  rename_i vs n2 p2
  unfold swappedStores
  dsimp only
  have hlt := filt_lt (fun e : Expr => match e with
    | .Name id pos => if (env.kindOf id == some .local && pos.line == (ts.head?.map (·.pos.line)).getD 0) = true then some id else none
    | _ => none) ts (by
      rw [List.any_eq_true] at h ⊢
      obtain ⟨t, ht, hl⟩ := h
      refine ⟨t, ht, ?_⟩
      cases t <;> try rfl
      rename_i id pos
      have hl : (!decide (env.scope.names.lookup id = some .local)) = true := hl
      have e : (env.kindOf id == some .local) = false := by
        rw [Bool.not_eq_true', decide_eq_false_iff_not] at hl
        exact beq_eq_false_iff_ne.mpr hl
      dsimp only
      rw [e, Bool.false_and, if_neg Bool.false_ne_true]
      rfl)
  split
  · rfl
  · split
    · rfl
    · rw [if_pos]
      rw [Bool.or_eq_true]
      exact .inl (bne_iff_ne.mpr (Nat.ne_of_lt hlt))
theorem sw_none (C : Cxt g gn Γ N k sc W X) (h : notSw sc t y = true) : swappedStores [t] y X.env = pure none := by
  unfold notSw at h
  rw [Bool.or_eq_true] at h
  rcases h with h | h
  · exact swapped_no h
  · split at h
    · cases y <;> rfl
    · exact swapped_cell (by rw [C.hsc]; exact h)
    · cases h
theorem s_setT (C : CxF g gn Γ N k sc W X) {ts : Tgs} (hn : notSw sc t y = true) (hl : lone y = true) (ht : chkT N sc (fun _ => true) (.t ts) t = true) (hy : PE X y (T g W (RlO g) (ev Γ a))) :
    PS X (.Assign [t] y p) (TS g W cs (ex Γ cs (.set (.t ts) a))) := by
  have C0 := C.C
  have ht0 := ht
  cases t <;> first | exact ff ht | skip
  rename_i es n pt
  have hsw : swapsWith y (some (.Tuple es n pt)) p.line X.env = pure false := by
    refine swaps_tup (m := p.line) hl ?_
    cases y <;> first | exact .inl rfl | exact .inr ⟨_, _, _, _, rfl⟩ | exact ff hl
  refine PS_imp (L2.ps_asg (PE_frz hy) (pg_ok (fnc := fun _ => true) C0.hN C0.nd C0.calm (fun x _ => C.fnT x) (.t ts) _ (by rw [C0.hsc]; exact ht0)) hsw (sw_none C0 hn) rfl) fun D σ H q => ?_
  obtain ⟨G, s, F, R, p⟩ := q
  have p : PostS g W cs σ G H (Own F) D ((frzR (ev Γ a s)).bind fun v s' => asgF cs (.t ts) v s') := p
  refine S_bind0 (f := fun s => frzR (ev Γ a s)) poor_V R p fun y H2 G1 s1 F1 w t R1 q p => ?_
  have p : PostS g W cs σ G1 H2 (Own F1) D (if (Tg.t ts).slots.all (fun i => !cs.contains i) = true then (asgR (.t ts) w s1).bind fun _ s' => .ok .nx s' else .bad) := p
  cases hc : (Tg.t ts).slots.all (fun i => !cs.contains i) with
  | false => rw [hc] at p; exact p.elim
  | true =>
    rw [hc, if_pos rfl] at p
    cases ha : asg (.t ts) w s1 with
    | none =>
      have e : asgR (.t ts) w s1 = .bad := by unfold asgR; rw [ha]
      rw [e] at p; exact p.elim
    | some s2 =>
      have e : asgR (.t ts) w s1 = .ok () s2 := by unfold asgR; rw [ha]
      rw [e] at p
      refine asg_of C0.hK (.t ts) w y s1 s2 σ F1 _ R1 q.2 ha fun σ2 F2 R2 l2 n2 o2 => ?_
      refine p G1 H2 σ2 F2 ⟨l2, fun j hj => n2 j fun z => ?_⟩ (Stp.refl.sub fun a z => o2 a z) R2
      have := List.all_eq_true.mp hc j z
      simp at this
      exact this hj
theorem s_set (C : CxF g gn Γ N k sc W X) {tg : Tg} (hn : notSw sc t y = true) (hl : lone y = true) (ht : chkT N sc (fun _ => true) tg t = true) (cy : chk gn N sc a y = true) : PS X (.Assign [t] y p) (TS g W cs (ex Γ cs (.set tg a))) := by
  cases tg with
  | v i =>
    cases t <;> first | exact ff ht | skip
    rename_i x px
    have h : (isNm N i x && locB sc (fun _ => true) x) = true := ht
    rw [Bool.and_eq_true] at h
    exact s_setV C h.1 (locB_ok h.2).1 hl cy
  | t ts => exact s_setT C hn hl ht (ev_ok a C.C cy)
/-- an own object is written where it stands -/
theorem s_app (C : CxF g gn Γ N k sc W X) {i : Nat} {ap cp : Pos} (hline : (ap.endLine == cp.line) = true) (cx : chk gn N sc (.var i) x = true) (cy : chk gn N sc a y = true) (hy : PE X y (T g W (RlO g) (ev Γ a))) :
    PS X (.Expr (.Call (.Attribute x "append" ap) [y] [] cp) p) (TS g W cs (ex Γ cs (.app i a))) := by
  have hbase : attributeBase x "append" X.env (eval x X.env) = eval x X.env := by
    obtain ⟨z, pz, rfl, _⟩ := chk_var cx
    rfl
  refine PS_imp (L2.ps_expr (L2.pe_bm PySem.F.plainAttrs_list PySem.F.slot_list_append PySem.F.type_list_append L2.mt_append (look_name C.C cx) (L2.pa_cons (PE_frz hy) L2.pa_nil (star_one (chk_plain cy).1)) hbase (few_one (chk_plain cy).1) hline (star_one (chk_plain cy).1) rfl)) fun D σ H q => ?_
  obtain ⟨G, s, F, R, p⟩ := q
  have p : PostS g W cs σ G H (Own F) D (match getO s i with
    | .lst _ => (frzR (ev Γ a s)).bind fun v s' => appR i v s'
    | _ => .bad) := p
  cases hg : getO s i with
  | emp => rw [hg] at p; exact p.elim
  | sh v => rw [hg] at p; exact p.elim
  | obj c v => rw [hg] at p; exact p.elim
  | kls c => rw [hg] at p; exact p.elim
  | lst xs =>
    rw [hg] at p
    have p : PostS g W cs σ G H (Own F) D ((frzR (ev Γ a s)).bind fun v s' => appR i v s') := p
    have hi : i < s.length := by
      refine Classical.byContradiction fun h => ?_
      rw [getO_out (Nat.le_of_not_lt h)] at hg; cases hg
    have hat := R.at_ i hi
    rw [hg] at hat
    obtain ⟨b, vs, ew, _, h1, _⟩ := hat
    refine ⟨.ref b, ew, .inl ⟨rfl, vs, .inl (.inl h1)⟩, S_bind0 (f := fun s => frzR (ev Γ a s)) poor_V R p fun v H2 G1 s1 F1 w t R1 q p => ?_⟩
    have p : PostS g W cs σ G1 H2 (Own F1) D (match getO s1 i with
      | .lst xs => if xs.length < big then .ok .nx (s1.set i (.lst (xs ++ [w]))) else .bad
      | _ => .bad) := p
    cases hg1 : getO s1 i with
    | emp => rw [hg1] at p; exact p.elim
    | sh v => rw [hg1] at p; exact p.elim
    | obj c v => rw [hg1] at p; exact p.elim
    | kls c => rw [hg1] at p; exact p.elim
    | lst ys =>
      rw [hg1] at p
      have p : PostS g W cs σ G1 H2 (Own F1) D (if ys.length < big then .ok .nx (s1.set i (.lst (ys ++ [w]))) else .bad) := p
      split at p
      · rename_i hbig
        have hi1 : i < s1.length := by rw [R1.len, ← R.len]; exact hi
        have hat1 := R1.at_ i hi1
        rw [hg1] at hat1
        obtain ⟨b1, ws, ew1, ep, h2, r2⟩ := hat1
        rw [ew] at ew1; cases ew1
        refine ⟨b, ws, v, rfl, rfl, h2, by rw [← r2.length, ← big_eq]; exact hbig, ?_⟩
        obtain ⟨R2, o2⟩ := put_own R1 hi1 ew ep (u := .lst (ws ++ [v])) (o := .lst (ys ++ [w])) ⟨b, ws ++ [v], ew, ep, upd_same, r2.append (Reps.cons q.2 Reps.nil)⟩
        exact p G1 _ σ F1 Keep.refl o2 R2
      · exact p.elim
end
end PF
set_option Elab.async false
set_option linter.all false
set_option maxRecDepth 100000
set_option maxHeartbeats 2000000
/-! PF, part o: more stores. -/
namespace PF
open PySem PySem.Spec PyProof.Rows
open L2 (V Hp HO upd upd_same upd_ne Same SqL SqT WX PE PT PA PC PS PSs OpR CallR IxR SlR MtR TruR VK Ends)
section
variable {g : Gm} {gn : GN} {Γ : Env} {N : List Tx} {k : Nat} {sc : Scope} {W : WX} {X : L2.Cx} {σ σ1 : L2.St} {H G H1 G1 : Hp} {A A1 : Fp} {a b c : Ex} {l r t x y e : Expr} {p : Pos} {s : S} {F : Nat → Fp} {cs : List Nat} {D D' : Ends}
theorem PostS.intR {r : Res PV} {kk : Int → S → Res Fl} (h : PostS g W cs σ G H A D ((intR r).bind kk)) : PostS g W cs σ G H A D (r.bind fun v s => match v with
    | .int i => kk i s
    | _ => .bad) := by
  cases r with
  | ok v s1 => cases v <;> exact h
  | exc e s => exact h
  | bad => exact h
/-- an int, then what is done with it -/
theorem S_int {f : S → Res PV} {kk : Int → S → Res Fl} {Q2 : VK} (R : RS g G H s σ F) (p : PostS g W cs σ G H (Own F) D ((intR (f s)).bind kk))
    (h : ∀ i H2 G1 s1 F1, Stp G H (Own F) G1 H2 (Own F1) → RS g G1 H2 s1 σ F1 → PostS g W cs σ G1 H2 (Own F1) D (kk i s1) → Q2 (.int i) H2) : T g W (RlV g) f σ H Q2 := by
  refine S_bind0 (f := f) poor_V R (PostS.intR p) fun y H2 G1 s1 F1 w t R1 q p => ?_
  cases w with
  | int i =>
    cases (show y = .int i from q.2)
    exact h i H2 G1 s1 F1 t R1 p
  | _ => exact (show False from p).elim
/-! ### xs[k] = e -/
theorem notSlice (h : notSub x = true) : ∀ a b c d, x ≠ .Slice a b c d := by
  intro a b c d e
  subst e; exact ff h
theorem assign_sub {o i : Expr} {pos : Pos} {env : PySem.Env} (h : notSub i = true) (v : Value) : assign (.Subscript o i pos) env v = (do
      let ov ← holding [v] (eval o env)
      let iv ← holding [v, ov] (eval i env)
      standAt pos
      holding [v, ov, iv] (setItem ov iv v)
      release [v, ov, iv] []) := by
  cases i <;> first | rfl | exact ff h
/-- the list at a slot is written -/
theorem setIx_ok {i : Nat} {j w : PV} {z u : V} {b : Addr} (R : RS g G H s σ F) (ew : σ[i]? = some (some (.ref b))) (hj : Rep g G j z) (hw : Rep g G w u) (p : PostS g W cs σ G H (Own F) D (setIxR i j w s)) : L2.rSetL (.ref b) z u H fun H3 => D.nx σ H3 := by
  unfold setIxR at p
  cases hg : getO s i with
  | emp => rw [hg] at p; exact p.elim
  | sh v => rw [hg] at p; exact p.elim
  | obj c v => rw [hg] at p; exact p.elim
  | kls c => rw [hg] at p; exact p.elim
  | lst ys =>
    cases j with
    | int k =>
      cases (show z = .int k from hj)
      simp only [hg] at p
      obtain ⟨hi, b1, ws, ew1, ep, h2, r2⟩ := at_lst R hg
      rw [ew] at ew1; cases ew1
      cases hx : ixN ys.length k with
      | none => rw [hx] at p; exact p.elim
      | some j =>
        rw [hx] at p
        refine ⟨b, ws, k, j, rfl, rfl, h2, ?_, ?_⟩
        · have e : L2.ixN ws.length k = ixN ws.length k := rfl
          rw [e, ← r2.length]; exact hx
        · obtain ⟨R2, o2⟩ := put_own R hi ew ep (u := .lst (ws.set j u)) (o := .lst (ys.set j w)) ⟨b, ws.set j u, ew, ep, upd_same, r2.set hw j⟩
          exact p G _ σ F Keep.refl o2 R2
    | _ => rw [hg] at p; exact p.elim
theorem s_setIx (C : CxF g gn Γ N k sc W X) {i : Nat} {p2 : Pos} (hs : notSub t = true) (hn : isComp y = false) (cx : chk gn N sc (.var i) x = true) (ht : PE X t (T g W (RlO g) (ev Γ b))) (hy : PE X y (T g W (RlO g) (ev Γ a))) :
    PS X (.Assign [.Subscript x t p2] y p) (TS g W cs (ex Γ cs (.setIx i b a))) := by
  refine PS_imp (L2.ps_asg (PE_frz hy) (L2.pg_sub (look_name C.C cx) (PE_frz ht) L2.set_list (fun v => assign_sub hs v)) (show swapsWith y (some (.Subscript x t p2)) p.line X.env = pure false from swaps_no hn) (by cases y <;> rfl) rfl) fun D σ H q => ?_
  obtain ⟨G, s, F, R, p⟩ := q
  have p : PostS g W cs σ G H (Own F) D ((frzR (ev Γ a s)).bind fun v s1 => match getO s1 i with
    | .lst _ => (frzR (ev Γ b s1)).bind fun j s2 => setIxR i j v s2
    | _ => .bad) := p
  refine S_bind0 (f := fun s => frzR (ev Γ a s)) poor_V R p fun u H1 G1 s1 F1 w t1 R1 hw p => ?_
  cases hg : getO s1 i with
  | emp => rw [hg] at p; exact p.elim
  | sh v => rw [hg] at p; exact p.elim
  | obj c v => rw [hg] at p; exact p.elim
  | kls c => rw [hg] at p; exact p.elim
  | lst ys =>
    rw [hg] at p
    obtain ⟨hi, b, vs, ew, _⟩ := at_lst R1 hg
    refine ⟨.ref b, ew, S_bind0 (f := fun s => frzR (ev Γ _ s)) poor_V R1 p fun z H2 G2 s2 F2 j t2 R2 hj p => ?_⟩
    exact setIx_ok R2 ew hj.2 (Rep.mono t2.g _ _ hw.2) p
/-! ### name op= e -/
def rAug (o : BOp) : L2.R2 := fun x y H Q => ∃ i j z, x = .int i ∧ y = .int j ∧ augop o i j = some z ∧ Q (.int z) H
theorem iop_aug {o : BOp} {op : Operator} (h : opB o op = true) : OpR X (inplaceOp op) (rAug o) := by
  cases o <;> cases op <;> first | (exact absurd (show false = true from h) Bool.false_ne_true) | skip
  · exact imp_op L2.iop_add fun x y H Q ⟨i, j, z, e1, e2, e3, q⟩ => by cases e3; exact ⟨i, j, e1, e2, q⟩
  · exact imp_op L2.iop_sub fun x y H Q ⟨i, j, z, e1, e2, e3, q⟩ => by cases e3; exact ⟨i, j, e1, e2, q⟩
  · refine imp_op L2.iop_mul fun x y H Q ⟨i, j, z, e1, e2, e3, q⟩ => ?_
    have e3 : (if mulOk i j = true then some (i * j) else none) = some z := e3
    split at e3
    · cases e3; exact ⟨i, j, e1, e2, mul_bd (by assumption), q⟩
    · cases e3
  · refine imp_op L2.iop_mod fun x y H Q ⟨i, j, z, e1, e2, e3, q⟩ => ?_
    have e3 : (if 0 < j then some (i % j) else none) = some z := e3
    split at e3
    · cases e3; exact ⟨i, j, e1, e2, by assumption, q⟩
    · cases e3
  · refine imp_op L2.iop_fdiv fun x y H Q ⟨i, j, z, e1, e2, e3, q⟩ => ?_
    have e3 : (if 0 < j ∧ j < 1073741824 then some (i / j) else none) = some z := e3
    split at e3
    · cases e3; exact ⟨i, j, e1, e2, by assumption, q⟩
    · cases e3
  · intro pins s σ H x y v u Q I rx ry h
    obtain ⟨i, j, z, _, _, e, _⟩ := h
    cases e
theorem s_aug (C : CxF g gn Γ N k sc W X) {i : Nat} {o : BOp} {op : Operator} (ho : opB o op = true) (hi : isNmL N sc i t = true) (hy : PE X y (T g W (RlO g) (ev Γ a))) : PS X (.AugAssign t op y p) (TS g W cs (ex Γ cs (.aug i o a))) := by
  obtain ⟨x, px, rfl, h1, h2⟩ := isNmL_ok hi
  refine PS_imp (L2.ps_aug (i := i) C.C.nd (by rw [C.C.hN]; exact isNm_ok h1) (by rw [C.C.hsc]; exact h2) (PE_frz hy) (ti := rAug o) (iop_aug ho) (.inl (C.fnT x))) fun D σ H q => ?_
  obtain ⟨G, s, F, R, p⟩ := q
  have p : PostS g W cs σ G H (Own F) D ((intR (Res.opt (getV s i) s)).bind fun x s0 => (intR (frzR (ev Γ a s0))).bind fun y s1 => (Res.opt (augop o x y) s1).bind fun z s2 => setV cs i (.sh (.int z)) s2) := p
  cases hv : getV s i with
  | none => rw [hv] at p; exact p.elim
  | some v =>
    rw [hv] at p
    obtain ⟨_, z, ez, pk⟩ := R.look hv
    cases v with
    | int n =>
      cases (show z = .int n from pk)
      have p : PostS g W cs σ G H (Own F) D ((intR (frzR (ev Γ a s))).bind fun y s1 => (Res.opt (augop o n y) s1).bind fun z s2 => setV cs i (.sh (.int z)) s2) := p
      refine ⟨_, ez, S_int (f := fun s => frzR (ev Γ a s)) R p fun m H1 G1 s1 F1 t1 R1 p => ?_⟩
      cases e : augop o n m with
      | none => rw [e] at p; exact p.elim
      | some z =>
        rw [e] at p
        refine ⟨n, m, z, rfl, rfl, e, ?_⟩
        have p : PostS g W cs σ G1 H1 (Own F1) D (setV cs i (.sh (.int z)) s1) := p
        exact set_nx (P := none_) (o := .sh (.int z)) R1 (fun _ z => z.elim) ⟨fun _ z => z, _, rfl, rep_int⟩ (p.sup fun a z => z.elim (fun z => z.elim) id)
    | _ => exact (show False from p).elim
/-! ### xs[k] op= e -/
theorem get_list : L2.PGet X (L2.rIxL X.K) := by
  intro pins s σ H o i v u Q I rx ry h
  obtain ⟨p, xs, i, z, rfl, rfl, hq, he, q⟩ := h
  cases rx
  obtain ⟨t, rfl⟩ := ry
  obtain ⟨its, r, pl, hz⟩ := I.list hq
  obtain ⟨j, h1, h2, h3, h4, h5⟩ := L2.atI_get he
  obtain ⟨w, ew, rw'⟩ := r.get h2
  have hl := r.length
  have hn := L2.line63
  have fin : L2.EP X pins σ Q w s := ⟨z, H, I, rw', q⟩
  by_cases h0 : 0 ≤ i
  · have hj : i.toNat = j := by
      rw [seqIndex_of h0 h5] at h1
      exact Option.some.inj h1
    exact PySem.wpAny_getItem_list pl.isList h0 (by omega) (by rw [hj]; simpa using ew) fin
  · have hj : (i + (its.toArray.size : Int)).toNat = j := by
      rw [seqIndex_neg (by omega) h4] at h1
      rw [List.size_toArray, ← hl]
      exact Option.some.inj h1
    exact PySem.wpAny_getItem_list_neg pl.isList (by omega) (by rw [List.size_toArray] <;> omega) (by omega) (by rw [hj]; simpa using ew) fin
theorem aug_sub {i : Expr} (h : notSub i = true) (ov iv new : Value) : augStore i ov iv new = (do holding [new, ov, iv] (setItem ov iv new); release [new, ov, iv] []; pure .next) := by
  cases i <;> first | rfl | exact ff h
theorem s_augIx (C : CxF g gn Γ N k sc W X) {i : Nat} {o : BOp} {op : Operator} {p2 : Pos} (ho : opB o op = true) (hs : notSub t = true) (cx : chk gn N sc (.var i) x = true) (ht : PE X t (T g W (RlO g) (ev Γ b))) (hy : PE X y (T g W (RlO g) (ev Γ a))) :
    PS X (.AugAssign (.Subscript x t p2) op y p) (TS g W cs (ex Γ cs (.augIx i b o a))) := by
  refine PS_imp (L2.ps_augS (look_name C.C cx) (PE_frz ht) get_list (PE_frz hy) (tip := rAug o) (iop_aug ho) L2.set_list (aug_sub hs)) fun D σ H q => ?_
  obtain ⟨G, s, F, R, p⟩ := q
  have p : PostS g W cs σ G H (Own F) D (match getO s i with
    | .lst _ => (intR (frzR (ev Γ b s))).bind fun j s1 => (intR (Res.opt (idxO (getO s1 i) j) s1)).bind fun x s2 =>
      (intR (frzR (ev Γ a s2))).bind fun y s3 => (Res.opt (augop o x y) s3).bind fun z s4 => setIxR i (.int j) (.int z) s4
    | _ => .bad) := p
  cases hg : getO s i with
  | emp => rw [hg] at p; exact p.elim
  | sh v => rw [hg] at p; exact p.elim
  | obj c v => rw [hg] at p; exact p.elim
  | kls c => rw [hg] at p; exact p.elim
  | lst ys =>
    rw [hg] at p
    obtain ⟨hi, d, vs, ew, _⟩ := at_lst R hg
    refine ⟨.ref d, ew, S_int (f := fun s => frzR (ev Γ b s)) R p fun j H1 G1 s1 F1 t1 R1 p => ?_⟩
    cases hv : getO s1 i with
    | emp => rw [hv] at p; exact (show False from p).elim
    | sh v => rw [hv] at p; exact (show False from p).elim
    | obj c v => rw [hv] at p; exact (show False from p).elim
    | kls c => rw [hv] at p; exact (show False from p).elim
    | lst xs =>
      rw [hv] at p
      obtain ⟨_, d2, ws, ew2, _, h2, r⟩ := at_lst R1 hv
      rw [ew] at ew2; cases ew2
      have p : PostS g W cs σ G1 H1 (Own F1) D ((intR (Res.opt ((ixN xs.length j).bind fun k => xs[k]?) s1)).bind fun x s2 =>
        (intR (frzR (ev Γ a s2))).bind fun y s3 => (Res.opt (augop o x y) s3).bind fun z s4 => setIxR i (.int j) (.int z) s4) := p
      cases hx : (ixN xs.length j).bind fun k => xs[k]? with
      | none => rw [hx] at p; exact (show False from p).elim
      | some m =>
        rw [hx] at p
        cases m with
        | int m =>
          have p : PostS g W cs σ G1 H1 (Own F1) D ((intR (frzR (ev Γ a s1))).bind fun y s3 => (Res.opt (augop o m y) s3).bind fun z s4 => setIxR i (.int j) (.int z) s4) := p
          obtain ⟨u, e1, e2⟩ := atI_rep r hx
          cases (show u = .int m from e2)
          refine ⟨d, ws, j, .int m, rfl, rfl, .inl (.inl h2), e1, S_int (f := fun s => frzR (ev Γ a s)) R1 p fun n H3 G3 s3 F3 t3 R3 p => ?_⟩
          cases ea : augop o m n with
          | none => rw [ea] at p; exact (show False from p).elim
          | some w =>
            rw [ea] at p
            have p : PostS g W cs σ G3 H3 (Own F3) D (setIxR i (.int j) (.int w) s3) := p
            exact ⟨m, n, w, rfl, rfl, ea, setIx_ok R3 ew (show Rep g G3 (.int j) (.int j) from rfl) (show Rep g G3 (.int w) (.int w) from rfl) p⟩
        | _ => exact (show False from p).elim
/-! ### a, b = x, y -/
/-- a value with others of ours beside it -/
theorem S_bindP {α β : Type} {f : S → Res α} {Rl : RL α β} {kk : α → S → Res Fl} {Q2 : β → Hp → Prop} {P0 : Fp} (R : RS g G H s σ F) (p : PostS g W cs σ G H (fun c => P0 c ∨ Own F c) D ((f s).bind kk))
    (h : ∀ y H2 G1 s1 F1 w P, Stp G H (Own F) G1 H2 (fun c => P c ∨ Own F1 c) → RS g G1 H2 s1 σ F1 → (∀ c, P c → G1 c = none ∧ ¬ Own F1 c) → Rl σ s1 G1 H2 w y P → PostS g W cs σ G1 H2 (fun c => P0 c ∨ P c ∨ Own F1 c) D (kk w s1) → Q2 y H2) : T g W Rl f σ H Q2 := by
  refine ⟨G, s, F, R, ?_⟩
  have lift : ∀ {G1 H1 : Hp} {A1 : Fp}, Stp G H (Own F) G1 H1 A1 → Stp G H (fun c => P0 c ∨ Own F c) G1 H1 (fun c => P0 c ∨ A1 c) := fun t => (t.sup fun _ z => .inr z).sub' fun a z => z.elim (fun z => .inr (.inl z)) .inl
  cases hf : f s with
  | bad => rw [hf] at p; exact p
  | exc e s1 =>
    rw [hf] at p
    exact fun G' H' F' d t R' x => p G' H' σ F' d Keep.refl ((lift t).sub fun _ z => .inr z) R' x
  | ok a s1 =>
    rw [hf] at p
    exact fun G' H' F' P b t R1 d q => h b H' G' s1 F' a P t R1 d q ((p : PostS g W cs σ G H (fun c => P0 c ∨ Own F c) D (kk a s1)).stp Keep.refl (lift t))
/-- what is ours beside a step stays ours -/
theorem beside {P0 : Fp} {A' : Fp} {o : OV} {w : Option (Option V)} (t : Stp G H (Own F) G1 H1 A') (h : OvR g G H o w P0) (d : ∀ c, P0 c → G c = none ∧ ¬ Own F c) : OvR g G1 H1 o w P0 ∧ (∀ c, P0 c → G1 c = none ∧ ¬ A' c) := by
  refine ⟨h.stp t fun a pa => (d a pa).2, fun c pc => ⟨h.free t (fun a pa => (d a pa).2) pc (d c pc).1, fun z => ?_⟩⟩
  rcases t.fnew c z with z | z
  · exact (d c pc).2 z
  · obtain ⟨u, hu⟩ := h.there pc
    rw [hu] at z; cases z
theorem setV_ok {i : Nat} {o : OV} {kk : Fl → S → Res Fl} (p : PostS g W cs σ G H A D ((setV cs i o s).bind kk)) : i < s.length ∧ i ∉ cs ∧ PostS g W cs σ G H A D (kk .nx (s.set i o)) := by
  have p : PostS g W cs σ G H A D ((if (decide (i < s.length) && !cs.contains i) = true then (.ok .nx (s.set i o) : Res Fl) else .bad).bind kk) := p
  cases hc : (decide (i < s.length) && !cs.contains i) with
  | false => rw [hc] at p; exact p.elim
  | true =>
    rw [hc] at p
    rw [Bool.and_eq_true, decide_eq_true_eq] at hc
    exact ⟨hc.1, by simpa using hc.2, p⟩
theorem setV_ok0 {i : Nat} {o : OV} (p : PostS g W cs σ G H A D (setV cs i o s)) : i < s.length ∧ i ∉ cs ∧ PostS g W cs σ G H A D (.ok .nx (s.set i o)) := by
  have e : setV cs i o s = (setV cs i o s).bind Res.ok := (bind_ok _).symm
  rw [e] at p
  exact setV_ok p
theorem isLocal_ok {x : Str} {px : Pos} (h : isLocal sc (.Name x px) = true) : sc.names.lookup x = some .local := of_decide_eq_true h
theorem nm_inj (hN : X.N = N.map mkS) (nd : X.N.Nodup) {i j : Nat} {x y : Str} (h1 : isNm N i x = true) (h2 : isNm N j y = true) (hij : i ≠ j) : x ≠ y := by
  intro e
  subst e
  have e1 := isNm_ok h1
  have e2 := isNm_ok h2
  rw [← hN] at e1 e2
  exact hij (L2.nodup_ix nd e1 e2)
theorem parB_ok {ts vs : List Expr} {t0 : Expr} {tr : List Expr} (e : ts = t0 :: tr) (h : parB ts vs = true) : (ts.all fun u => (u.pos.line == t0.pos.line)) = true ∧ vs.all (foldedForSure 8) = false ∧ vs.all (constantsAlone 8) = false := by
  subst e
  have h : (((t0 :: tr).all fun u => (u.pos.line == t0.pos.line)) && !vs.all (foldedForSure 8) && !vs.all (constantsAlone 8)) = true := h
  rw [Bool.and_eq_true, Bool.and_eq_true, Bool.not_eq_true', Bool.not_eq_true'] at h
  exact ⟨h.1.1, h.1.2, h.2⟩
theorem star_no (h : ∀ a b, x ≠ .Starred a b) : (match x with | .Starred .. => true | _ => false) = false := by
  cases x <;> first | rfl | exact absurd rfl (h _ _)
theorem swapped2 {env : PySem.Env} {x y : Str} {px py pt pt2 : Pos} {n n2 : Nat} {u v : Expr} (hk : env.scope.kind = .function) (hx : env.scope.names.lookup x = some .local) (hy : env.scope.names.lookup y = some .local) (hxy : x ≠ y)
    (hp : parB [.Name x px, .Name y py] [u, v] = true) (su : ∀ a b, u ≠ .Starred a b) (sv : ∀ a b, v ≠ .Starred a b) : swappedStores [.Tuple [.Name x px, .Name y py] n pt] (.Tuple [u, v] n2 pt2) env = pure (some [x, y]) := by
  obtain ⟨h1, h2, h3⟩ := parB_ok rfl hp
  have hb : env.blockKind = .function := by unfold Env.blockKind; rw [hk]; rfl
  have kx : env.kindOf x = some .local := hx
  have ky : env.kindOf y = some .local := hy
  have l2 : (py.line == px.line) = true := by
    rw [List.all_cons, List.all_cons, Bool.and_eq_true, Bool.and_eq_true] at h1
    exact h1.2.1
  have l2 : py.line = px.line := beq_iff_eq.mp l2
  have ed : ([x, y] : List Str).eraseDups = [x, y] := by
    simp [List.eraseDups_cons, Ne.symm hxy]
  unfold swappedStores
  simp only [hb, kx, ky, h2, h3, List.any_cons, List.any_nil, star_no su, star_no sv, List.filterMap_cons, List.filterMap_nil, l2, ed, Expr.pos, List.head?_cons, Option.map_some, Option.getD_some, beq_self_eq_true, List.length_cons, List.length_nil, Bool.and_self, if_true, Bool.or_false]
  rfl
theorem s_par2 (C : CxF g gn Γ N k sc W X) {i j : Nat} {u v : Expr} {n n2 : Nat} {pt pt2 : Pos} (hij : i ≠ j) (h1 : isNmL N sc i x = true) (h2 : isNmL N sc j y = true) (l1 : isLocal sc x = true) (l2 : isLocal sc y = true) (hp : parB [x, y] [u, v] = true) (cu : chk gn N sc a u = true) (cv : chk gn N sc b v = true) :
    PS X (.Assign [.Tuple [x, y] n pt] (.Tuple [u, v] n2 pt2) p) (TS g W cs (ex Γ cs (.par2 i j a b))) := by
  obtain ⟨x, px, rfl, m1, _⟩ := isNmL_ok h1
  obtain ⟨y, py, rfl, m2, _⟩ := isNmL_ok h2
  have C0 := C.C
  have hx : X.env.scope.names.lookup x = some .local := by rw [C0.hsc]; exact isLocal_ok l1
  have hy : X.env.scope.names.lookup y = some .local := by rw [C0.hsc]; exact isLocal_ok l2
  refine ⟨fun pins s σ H D I q => ?_⟩
  refine (L2.ps_par (i := i) (j := j) (pos := p) C0.calm C0.nd (by rw [C0.hN]; exact isNm_ok m1) (by rw [C0.hN]; exact isNm_ok m2) hij hx hy
    (L2.pa_cons (ev_ok a C0 cu) (L2.pa_cons (ev_ok b C0 cv) L2.pa_nil (star_one (chk_plain cv).1)) (star_one (chk_plain cu).1))
    (swapped2 I.ok.kind hx hy (nm_inj C0.hN C0.nd m1 m2 hij) hp (chk_plain cu).1 (chk_plain cv).1) rfl).run pins s σ H D I ?_
  obtain ⟨G, s, F, R, p⟩ := q
  have p : PostS g W cs σ G H (Own F) D ((ev Γ a s).bind fun x s1 => (ev Γ b s1).bind fun y s2 => (setV cs i x s2).bind fun _ s3 => setV cs j y s3) := p
  refine S_bind (f := ev Γ a) R p fun z H1 G1 s1 F1 w P1 t1 R1 d1 q1 p => ?_
  refine S_bindP (f := ev Γ b) R1 p fun z2 H2 G2 s2 F2 w2 P2 t2 R2 d2 q2 p => ?_
  refine ⟨z, z2, rfl, ?_⟩
  obtain ⟨k1, k2⟩ := beside t2 q1 d1
  obtain ⟨i1, n1, p⟩ := setV_ok p
  obtain ⟨i2, n2, p⟩ := setV_ok0 p
  obtain ⟨R3, o3⟩ := put_slot R2 (fun c pc => ⟨(k2 c pc).1, fun z => (k2 c pc).2 (.inr z)⟩) k1 i1
  have d3 : ∀ c, P2 c → G2 c = none ∧ ¬ Own (updF F2 i P1) c := fun c pc => ⟨(d2 c pc).1, fun z => (o3 c z).elim (fun z => (k2 c z).2 (.inl pc)) (d2 c pc).2⟩
  obtain ⟨R4, o4⟩ := put_slot R3 d3 q2 i2
  refine p G2 H2 _ _ ((Keep.set n1).trans (Keep.set n2)) (Stp.refl.sub fun c z => ?_) R4
  rcases o4 c z with z | z
  · exact .inr (.inl z)
  · rcases o3 c z with z | z
    · exact .inl z
    · exact .inr (.inr z)
theorem swapped3 {env : PySem.Env} {x y z : Str} {px py pz pt pt2 : Pos} {n n2 : Nat} {u v w : Expr} (hk : env.scope.kind = .function) (hx : env.scope.names.lookup x = some .local) (hy : env.scope.names.lookup y = some .local) (hz : env.scope.names.lookup z = some .local) (hxy : x ≠ y) (hxz : x ≠ z) (hyz : y ≠ z)
    (hp : parB [.Name x px, .Name y py, .Name z pz] [u, v, w] = true) (su : ∀ a b, u ≠ .Starred a b) (sv : ∀ a b, v ≠ .Starred a b) (sw : ∀ a b, w ≠ .Starred a b) :
    swappedStores [.Tuple [.Name x px, .Name y py, .Name z pz] n pt] (.Tuple [u, v, w] n2 pt2) env = pure (some [x, y, z]) := by
  obtain ⟨h1, h2, h3⟩ := parB_ok rfl hp
  have hb : env.blockKind = .function := by unfold Env.blockKind; rw [hk]; rfl
  have kx : env.kindOf x = some .local := hx
  have ky : env.kindOf y = some .local := hy
  have kz : env.kindOf z = some .local := hz
  rw [List.all_cons, List.all_cons, List.all_cons, Bool.and_eq_true, Bool.and_eq_true, Bool.and_eq_true] at h1
  have l2 : py.line = px.line := beq_iff_eq.mp h1.2.1
  have l3 : pz.line = px.line := beq_iff_eq.mp h1.2.2.1
  have ed : ([x, y, z] : List Str).eraseDups = [x, y, z] := by
    simp [List.eraseDups_cons, Ne.symm hxy, Ne.symm hxz, Ne.symm hyz]
  unfold swappedStores
  simp only [hb, kx, ky, kz, h2, h3, List.any_cons, List.any_nil, star_no su, star_no sv, star_no sw, List.filterMap_cons, List.filterMap_nil, l2, l3, ed, Expr.pos, List.head?_cons, Option.map_some, Option.getD_some, beq_self_eq_true, List.length_cons, List.length_nil, Bool.and_self, if_true, Bool.or_false]
  rfl
theorem s_par3 (C : CxF g gn Γ N k sc W X) {i j m : Nat} {u v w z : Expr} {n n2 : Nat} {pt pt2 : Pos} (hij : i ≠ j) (him : i ≠ m) (hjm : j ≠ m) (h1 : isNmL N sc i x = true) (h2 : isNmL N sc j y = true) (h3 : isNmL N sc m z = true) (l1 : isLocal sc x = true) (l2 : isLocal sc y = true) (l3 : isLocal sc z = true)
    (hp : parB [x, y, z] [u, v, w] = true) (cu : chk gn N sc a u = true) (cv : chk gn N sc b v = true) (cw : chk gn N sc c w = true) :
    PS X (.Assign [.Tuple [x, y, z] n pt] (.Tuple [u, v, w] n2 pt2) p) (TS g W cs (ex Γ cs (.par3 i j m a b c))) := by
  obtain ⟨x, px, rfl, m1, _⟩ := isNmL_ok h1
  obtain ⟨y, py, rfl, m2, _⟩ := isNmL_ok h2
  obtain ⟨z, pz, rfl, m3, _⟩ := isNmL_ok h3
  have C0 := C.C
  have hx : X.env.scope.names.lookup x = some .local := by rw [C0.hsc]; exact isLocal_ok l1
  have hy : X.env.scope.names.lookup y = some .local := by rw [C0.hsc]; exact isLocal_ok l2
  have hz : X.env.scope.names.lookup z = some .local := by rw [C0.hsc]; exact isLocal_ok l3
  refine ⟨fun pins s σ H D I q => ?_⟩
  refine (L2.ps_par3 (i := i) (j := j) (l := m) (pos := p) C0.calm C0.nd (by rw [C0.hN]; exact isNm_ok m1) (by rw [C0.hN]; exact isNm_ok m2) (by rw [C0.hN]; exact isNm_ok m3) hij him hjm hx hy hz
    (L2.pa_cons (ev_ok a C0 cu) (L2.pa_cons (ev_ok b C0 cv) (L2.pa_cons (ev_ok c C0 cw) L2.pa_nil (star_one (chk_plain cw).1)) (star_one (chk_plain cv).1)) (star_one (chk_plain cu).1))
    (swapped3 I.ok.kind hx hy hz (nm_inj C0.hN C0.nd m1 m2 hij) (nm_inj C0.hN C0.nd m1 m3 him) (nm_inj C0.hN C0.nd m2 m3 hjm) hp (chk_plain cu).1 (chk_plain cv).1 (chk_plain cw).1) rfl).run pins s σ H D I ?_
  obtain ⟨G, s, F, R, p⟩ := q
  have p : PostS g W cs σ G H (Own F) D ((ev Γ a s).bind fun x s1 => (ev Γ b s1).bind fun y s2 => (ev Γ c s2).bind fun z s3 =>
      (setV cs i x s3).bind fun _ s4 => (setV cs j y s4).bind fun _ s5 => setV cs m z s5) := p
  refine S_bind (f := ev Γ a) R p fun z1 H1 G1 s1 F1 w1 P1 t1 R1 d1 q1 p => ?_
  refine S_bindP (f := ev Γ b) R1 p fun z2 H2 G2 s2 F2 w2 P2 t2 R2 d2 q2 p => ?_
  obtain ⟨k1, k2⟩ := beside t2 q1 d1
  have p : PostS g W cs σ G2 H2 (fun c => (P1 c ∨ P2 c) ∨ Own F2 c) D ((ev Γ c s2).bind fun z s3 =>
      (setV cs i w1 s3).bind fun _ s4 => (setV cs j w2 s4).bind fun _ s5 => setV cs m z s5) := p.sup fun a z => z.elim (fun z => z.elim .inl fun z => .inr (.inl z)) fun z => .inr (.inr z)
  refine S_bindP (f := ev Γ c) R2 p fun z3 H3 G3 s3 F3 w3 P3 t3 R3 d3 q3 p => ?_
  refine ⟨z1, z2, z3, rfl, ?_⟩
  obtain ⟨a1, a2⟩ := beside t3 k1 fun c pc => ⟨(k2 c pc).1, fun z => (k2 c pc).2 (.inr z)⟩
  obtain ⟨b1, b2⟩ := beside t3 q2 d2
  obtain ⟨i1, n1, p⟩ := setV_ok p
  obtain ⟨i2, n2, p⟩ := setV_ok p
  obtain ⟨i3, n3, p⟩ := setV_ok0 p
  obtain ⟨R4, o4⟩ := put_slot R3 (fun c pc => ⟨(a2 c pc).1, fun z => (a2 c pc).2 (.inr z)⟩) a1 i1
  have d4 : ∀ c, P2 c → G3 c = none ∧ ¬ Own (updF F3 i P1) c := fun c pc => ⟨(b2 c pc).1, fun z => (o4 c z).elim (fun z => (k2 c z).2 (.inl pc)) fun z => (b2 c pc).2 (.inr z)⟩
  obtain ⟨R5, o5⟩ := put_slot R4 d4 b1 i2
  have d5 : ∀ c, P3 c → G3 c = none ∧ ¬ Own (updF (updF F3 i P1) j P2) c := fun c pc => ⟨(d3 c pc).1, fun z => (o5 c z).elim (fun z => (b2 c z).2 (.inl pc)) fun z => (o4 c z).elim (fun z => (a2 c z).2 (.inl pc)) (d3 c pc).2⟩
  obtain ⟨R6, o6⟩ := put_slot R5 d5 q3 i3
  refine p G3 H3 _ _ (((Keep.set n1).trans (Keep.set n2)).trans (Keep.set n3)) (Stp.refl.sub fun c z => ?_) R6
  rcases o6 c z with z | z
  · exact .inr (.inl z)
  · rcases o5 c z with z | z
    · exact .inl (.inr z)
    · rcases o4 c z with z | z
      · exact .inl (.inl z)
      · exact .inr (.inr z)
end
end PF
set_option Elab.async false
set_option linter.all false
set_option maxRecDepth 100000
set_option maxHeartbeats 4000000
/-! PF, part v: try with clauses, each with or without a name. -/
namespace PF
open PySem PySem.Spec PyProof.Rows
open L2 (V Hp HO upd upd_same upd_ne Same SqL SqT WX PE PT PA PS PSs Ends)
abbrev SuT := Addr → Value → Option Addr → L2.TS
/-- a clause: its class, its name's slot, its suite -/
structure Cl where
  c : Value
  i : Option Nat
  ts : SuT
def inSlot (i : Option Nat) (a : Addr) (σ : L2.St) : L2.St := match i with
  | none => σ
  | some i => σ.set i (some (.ref a))
def offSlot (i : Option Nat) (σ : L2.St) : L2.St := match i with
  | none => σ
  | some i => σ.set i none
def offEnds (i : Option Nat) (D : Ends) : Ends := { nx := fun σ H => D.nx (offSlot i σ) H, rt := D.rt, bk := fun σ H => D.bk (offSlot i σ) H, ct := fun σ H => D.ct (offSlot i σ) H }
/-- what the clauses wish of an exception -/
def wCls (K : PySem.W.Frag) (Wout : WX) (D : Ends) : List Cl → WX
  | [] => Wout
  | k :: r => fun cls d σ H => ∃ b, PySem.W.exmOne K cls k.c = some b ∧ (b = true → ∀ a, H a = none → k.ts a cls d (offEnds k.i D) (inSlot k.i a σ) H) ∧ (b = false → wCls K Wout D r cls d σ H)
/-- the name of a clause -/
def NmOk (X : L2.Cx) : Option Nat → Option Str → Prop
  | none, n => n = none
  | some i, n => ∃ m, n = some m ∧ X.N[i]? = some m ∧ X.env.kindOf m = some .local
inductive ClsOk (X : L2.Cx) : List ExceptHandler → List Cl → Prop
  | nil : ClsOk X [] []
  | cons {x : Str} {n : Option Str} {k : Cl} {b₀ : Stmt} {suite : List Stmt} {np pos' : Pos} {hs : List ExceptHandler} {l : List Cl} (hc : L2.Names X x k.c) (hn : NmOk X k.i n)
      (hsu : ∀ (a : Addr) (oe : Obj) (cls : Value) (d : Option Addr) (pn : List (Addr × Obj)), L2.Zc cls d oe → (∃ vs, oe.data = .fields vs) → PSs (X.suite a ((a, oe) :: pn)) (b₀ :: suite) (k.ts a cls d)) (r : ClsOk X hs l) :
      ClsOk X (.ExceptHandler (some (.Name x np)) n (b₀ :: suite) pos' :: hs) (k :: l)
section
variable {X : L2.Cx} {body : List Stmt} {h₀ : ExceptHandler} {hl : List ExceptHandler} {l : List Cl} {pos : Pos} {tb : WX → L2.TS} {Wout : WX}
theorem sp_try {pins : List (Addr × Obj)} {xe : Value → Shared → Prop} {D : Ends} {f : Flow} {s1 : Shared} (ok : X.Ok) (h : L2.SP (X.tr (X.pn ++ pins) xe) [] D f s1) : L2.SP X pins D f s1 := by
  cases f with
  | ret u => obtain ⟨v, σ', H', J', r, q⟩ := h; exact ⟨v, σ', H', J'.ofTry ok, r, q⟩
  | next => obtain ⟨σ', H', J', q⟩ := h; exact ⟨σ', H', J'.ofTry ok, q⟩
  | brk => obtain ⟨σ', H', J', q⟩ := h; exact ⟨σ', H', J'.ofTry ok, q⟩
  | cont => obtain ⟨σ', H', J', q⟩ := h; exact ⟨σ', H', J'.ofTry ok, q⟩
theorem ps_try_cls (hst : X.stack = X.env :: X.outer) (hf : X.env.frame = some X.env.locals) (hN : X.N.Nodup) (tk : L2.Takes X Wout)
    (hb : ∀ (W : WX) (pn : List (Addr × Obj)) (xe : Value → Shared → Prop), L2.Takes (X.tr pn xe) W → PassesOwn (model X.prog X.w) X.A X.env xe → PSs (X.tr pn xe) body (tb W))
    (hh : ClsOk X (h₀ :: hl) l) : PS X (.Try body (h₀ :: hl) [] [] pos) (fun D σ H => tb (wCls X.K Wout D l) D σ H) := by
  refine ⟨fun pins s σ H D I h => ?_⟩
  have ok := I.ok
  have hfr : X.A.frames = some (X.env :: X.outer) := ok.frames.trans (by rw [hst])
  refine wpAny_Try_except ?_
  let xe : Value → Shared → Prop := fun e s₁ => wpAny (model X.prog X.w) X.A (noteFrame e X.env) (fun _ s₂ => wpAny (model X.prog X.w) X.A (setFlight e none) (fun _ s₃ => wpAny (model X.prog X.w) X.A (handleBy e X.env (h₀ :: hl)) (L2.SP X pins D) X.xe s₃) X.xe s₂) X.xe s₁
  have key : L2.Takes (X.tr (X.pn ++ pins) xe) (wCls X.K Wout D l) := by
    intro u s' xx
    obtain ⟨a, B, sI, pins', σ', H', cls, d, rfl, J', nb, up, sky, na, os, ag, w⟩ := xx
    have J : L2.Inv X pins σ' H' sI := J'.ofTry ok
    have sky2 : L2.Sky B (X.env :: X.outer) a (L2.Zc cls d) X.env.locals s'.heap := by rw [← hst]; exact sky
    show wpAny (model X.prog X.w) X.A (noteFrame (.ref a) X.env) _ _ _
    refine L2.Sky.land L2.Zc.steady hfr hf sky2 fun h3 fl3 up3 => ?_
    have J3 : L2.Inv X pins σ' H' { s' with heap := h3 } := J.landed nb fl3.1 (up.trans up3) os ag
    obtain ⟨oe3, vs3, he3, hz3, hd3⟩ := fl3.there
    have nfr : a ∉ L2.frs (X.env :: X.outer) := fun hm => by
      obtain ⟨_, o', e', hnf⟩ := fl3.2.2.1.mem hm
      rw [he3] at e'; cases e'
      exact hnf _ hd3
    have nL : a ≠ X.env.locals := fun z => nfr (List.mem_filterMap.mpr ⟨X.env, List.mem_cons_self, hf.trans (by rw [z])⟩)
    have nF : a ∉ X.fs := fun hm => by
      obtain ⟨e, he, q⟩ := List.mem_filterMap.mp hm
      exact nfr (List.mem_filterMap.mpr ⟨e, List.mem_cons_of_mem _ he, q⟩)
    have S3 := J3.suite he3 hd3 na nL nF
    have go : ∀ {hs' : List ExceptHandler} {l' : List Cl}, ClsOk X hs' l' → wCls X.K Wout D l' cls d σ' H' → wpAny (model X.prog X.w) X.A (handleBy (.ref a) X.env hs') (L2.SP X pins D) X.xe { s' with heap := h3 } := by
      intro hs' l' hk
      induction hk with
      | nil =>
        intro w
        refine wpAny_handleBy_nil ?_
        obtain ⟨k1, k2, k3, oe, vs, T, oT, ts', he, hz, hd, h1, hr⟩ := id fl3
        unfold PySem.passOn
        refine wpAny_bind (wpAny_field he hd h1 ?_)
        rw [if_neg (by simp : ¬ ((Value.ref T == Value.none) = true))]
        have out : wpAny (model X.prog X.w) X.A (setFlight (.ref a) X.env.frame) (fun _ s4 => wpAny (model X.prog X.w) X.A (throw (.ref a) : Sem Flow) (L2.SP X pins D) X.xe s4) X.xe { s' with heap := h3 } := by
          rw [hf]
          exact HandSPX.setFlight_upZ fl3 fun h4 hh4 up4 => wpAny_throw (tk _ _ ⟨a, B, sI, pins, σ', H', cls, d, rfl, J, nb, (up.trans up3).trans up4, .inr (.inr (by rw [hst]; exact hh4)), na, os, ag, w⟩)
        first | exact wpAny_bind out | exact wpAny_bind (wpAny_pure (wpAny_bind out))
      | @cons x n k b₀ suite np pos' hs2 l2 hc hn hsu r ih =>
        intro w
        obtain ⟨b, hb1, hyes, hno⟩ := w
        refine wpAny_handleBy_cons (codeAny_handlers_test ?_) (fun q => by cases q)
        have LT : PySem.W.Looks (model X.prog X.w) h3 (typeOf (.ref a)) cls := fun A Q E s kp q => wpAny_typeOf_ref (kp _ _ he3) (by rw [hz3.1]; exact q)
        have LM := PySem.W.exm_one (M := model X.prog X.w) J3.kIn LT hb1
        have nm : ∀ {Q : Value → Shared → Prop} {Er : Value → Shared → Prop}, Q k.c { s' with heap := h3 } → wpAny (model X.prog X.w) (X.A.mark (some (.ref a))) (eval (.Name x np) X.env) Q Er { s' with heap := h3 } := fun {Q Er} q => by
          obtain ⟨hg, hdb, hm | ⟨hm, hv, hnn⟩⟩ := hc
          · exact L2.ld_glob (X := X.suite a ((a, oe3) :: (X.pn ++ pins))) S3 hg hm q hdb
          · exact L2.ld_blt (X := X.suite a ((a, oe3) :: (X.pn ++ pins))) S3 hg hm hv q hnn hdb
        refine nm (LM.here ?_)
        cases b with
        | false => exact ih (hno rfl)
        | true =>
          have hy := hyes rfl a na
          obtain ⟨kc, ki, kts⟩ := k
          cases ki with
          | none =>
            cases (show n = none from hn)
            refine codeAny_handlers_suite (HandSPX.lands_againZ fl3 fun h4 fl4 up4 => ?_)
            have J4 : L2.Inv X pins σ' H' { s' with heap := h4 } := J.landed nb fl4.1 ((up.trans up3).trans up4) os ag
            obtain ⟨oe4, vs4, he4, hz4, hd4⟩ := fl4.there
            refine wpAny_mono ((hsu a oe4 cls d (X.pn ++ pins) hz4 ⟨_, hd4⟩).run [] _ _ H' _ (J4.suite he4 hd4 na nL nF) hy) (fun f s6 z => ?_) (fun _ _ z => False.elim z)
            cases f with
            | ret u => obtain ⟨v6, σ6, H6, S6, r6, q6⟩ := z; exact ⟨_, _, _, S6.unsuite ok, r6, q6⟩
            | next => obtain ⟨σ6, H6, S6, q6⟩ := z; exact ⟨_, _, S6.unsuite ok, q6⟩
            | brk => obtain ⟨σ6, H6, S6, q6⟩ := z; exact ⟨_, _, S6.unsuite ok, q6⟩
            | cont => obtain ⟨σ6, H6, S6, q6⟩ := z; exact ⟨_, _, S6.unsuite ok, q6⟩
          | some i =>
            obtain ⟨m, rfl, hi, hln⟩ := hn
            have hloc : L2.Loc X.env.scope m := .inl hln
            refine codeAny_handlers_suite_as (HandSPX.lands_againZ fl3 fun h4 fl4 up4 => ?_)
            have J4 : L2.Inv X pins σ' H' { s' with heap := h4 } := J.landed nb fl4.1 ((up.trans up3).trans up4) os ag
            obtain ⟨oe4, vs4, he4, hz4, hd4⟩ := fl4.there
            refine L2.store_ok (X := X.suite a ((a, oe4) :: (X.pn ++ pins))) (v := .ref a) (J4.suite he4 hd4 na nL nF) hN hi hloc rfl (fun s5 S5 => ?_) (.inr hln)
            refine wpAny_mono ((hsu a oe4 cls d (X.pn ++ pins) hz4 ⟨_, hd4⟩).run [] s5 _ H' _ S5 hy) (fun f s6 z => ?_) (fun _ _ z => False.elim z)
            have gone : ∀ {σ6 : L2.St} {H6 : Hp} {Q : Shared → Prop}, L2.Inv (X.suite a ((a, oe4) :: (X.pn ++ pins))) [] σ6 H6 s6 → (∀ s7, L2.Inv X pins (σ6.set i none) H6 s7 → Q s7) →
                wpAny (model X.prog X.w) X.A (do bindName X.env m .none; unbindBehindTheSuite X.env m pos') (fun _ s7 => Q s7) X.xe s6 := fun {σ6 H6 Q} S6 hq => L2.gone_ok (S6.unsuite ok) hN hi hln hq
            cases f with
            | ret u => obtain ⟨v6, σ6, H6, S6, r6, q6⟩ := z; exact gone S6 fun s7 J7 => ⟨_, _, _, J7, r6, q6⟩
            | next => obtain ⟨σ6, H6, S6, q6⟩ := z; exact gone S6 fun s7 J7 => ⟨_, _, J7, q6⟩
            | brk => obtain ⟨σ6, H6, S6, q6⟩ := z; exact gone S6 fun s7 J7 => ⟨_, _, J7, q6⟩
            | cont => obtain ⟨σ6, H6, S6, q6⟩ := z; exact gone S6 fun s7 J7 => ⟨_, _, J7, q6⟩
    exact go hh w
  refine wpAny_mono ((hb (wCls X.K Wout D l) (X.pn ++ pins) xe key PassesOwn.looking).run [] s σ H D (I.toTry _) h) (fun f s1 z => ?_) (fun e s1 he => he)
  have z2 := sp_try ok z
  cases f with
  | next => exact wpAny_execs_nil z2
  | _ => exact z2
end
end PF
set_option Elab.async false
set_option linter.all false
set_option maxRecDepth 100000
set_option maxHeartbeats 2000000
/-! PF, part t1: raise; self.f = e. -/
namespace PF
open PySem PySem.Spec PyProof.Rows
open L2 (V Hp HO upd upd_same upd_ne Same SqL SqT WX PE PT PA PC PS PSs OpR CallR IxR SlR MtR TruR VK Ends)
theorem putF_zip : ∀ {ns : List Str} {vs : List V} {n : Str} {y : V}, ns.Nodup → ns[vs.length]? = some n → L2.putF n y (ns.zip vs) = ns.zip (vs ++ [y])
  | [], _, _, _, _, h => by simp at h
  | a :: ns, [], n, y, _, h => by
    have h : a = n := by simpa using h
    subst h
    cases ns <;> rfl
  | a :: ns, v :: vs, n, y, nd, h => by
    have h : ns[vs.length]? = some n := by simpa using h
    rw [List.nodup_cons] at nd
    have ne : a ≠ n := fun z => nd.1 (by rw [z]; exact List.mem_of_getElem? h)
    show L2.putF n y ((a, v) :: ns.zip vs) = (a, v) :: ns.zip (vs ++ [y])
    unfold L2.putF
    rw [if_neg ne, putF_zip nd.2 h]
section
variable {g : Gm} {gn : GN} {Γ : Env} {N : List Tx} {k : Nat} {sc : Scope} {W : WX} {X : L2.Cx} {σ σ1 : L2.St} {H G H1 G1 : Hp} {A A1 : Fp} {a b c : Ex} {l r t x y e : Expr} {p : Pos} {s : S} {F : Nat → Fp} {cs : List Nat} {D D' : Ends} {es : Exs} {ls : List Expr}
theorem var_of {i : Nat} (h : varB N sc i x = true) : chk gn N sc (.var i) x = true := by
  cases x <;> first | exact ff h | exact h
theorem at_obj {i c : Nat} {fs : List PV} (R : RS g G H s σ F) (hg : getO s i = .obj c fs) : i < s.length ∧ g.kn c ∧ ∃ b dx vs, σ[i]? = some (some (.ref b)) ∧ (∀ z, F i z ↔ z = b) ∧ H b = some (.ins (g.cl c) dx ((g.fnm c).zip vs)) ∧ Reps g G fs vs := by
  have hi : i < s.length := by
    refine Classical.byContradiction fun h => ?_
    rw [getO_out (Nat.le_of_not_lt h)] at hg; cases hg
  have hat := R.at_ i hi
  rw [hg] at hat
  obtain ⟨kn, b, dx, vs, ew, ep, h1, r⟩ := hat
  exact ⟨hi, kn, b, dx, vs, ew, ep, h1, r⟩
theorem S_bindE {α β : Type} {f : S → Res α} {Rl : RL α β} {kk : α → S → Res Fl} {Q2 : β → Hp → Prop} (n : Poor Rl) (R : RS g G H s σ F) (p : PostS g W cs σ G H (Own F) D ((f s).bind kk))
    (h : ∀ y H2 G1 s1 F1 w, Stp G H (Own F) G1 H2 (Own F1) → RS g G1 H2 s1 σ F1 → Rl σ s1 G1 H2 w y none_ → PostS g W cs σ G1 H2 (Own F1) D (kk w s1) → f s = .ok w s1 → Q2 y H2) : T g W Rl f σ H Q2 := by
  refine ⟨G, s, F, R, ?_⟩
  cases hf : f s with
  | bad => rw [hf] at p; exact p
  | exc e s1 =>
    rw [hf] at p
    exact fun G' H' F' d t R' x => p G' H' σ F' d Keep.refl t R' x
  | ok a s1 =>
    rw [hf] at p
    intro G' H' F' P b t R1 d q
    have e := poor_none (n _ _ _ _ _ _ _ q)
    subst e
    exact h b H' G' s1 F' a (t.sub fun _ z => .inr z) R1 q (((p : PostS g W cs σ G H (Own F) D (kk a s1)).stp Keep.refl t).sup fun _ z => .inr z) hf
/-- raise C(e, ..) -/
theorem s_raise (C : CxF g gn Γ N k sc W X) {c : Nat} {f : Str} {pf pc : Pos} (hx : isO (gn.exc c) f = true) (hg : glB sc f = true) (hne : ls.isEmpty = false) (hn1 : (gn.xfl c ls.length).isNone = true) (hn2 : (gn.xfl c (ls.length - 1)).isSome = true) (cls : chks gn N sc es ls = true)
    (hes : PA X ls (T g W (RlVs g) (evs Γ es))) : PS X (.Raise (some (.Call (.Name f pf) ls [] pc)) none p) (TS g W cs (ex Γ cs (.raise c es))) := by
  obtain ⟨t, e1, rfl⟩ := isO_ok hx
  obtain ⟨gl, db⟩ := glB_ok C.C hg
  have hm := C.C.exc c t e1
  obtain ⟨t2, e2⟩ := Option.isSome_iff_exists.mp hn2
  obtain ⟨ok, nm⟩ := C.C.xok c _ t2 e2
  cases ls with
  | nil => cases hne
  | cons l ls =>
    have hfl : (g.xfn c).length = (l :: ls).length := by
      have q1 := nm (l :: ls).length
      have q2 := nm ((l :: ls).length - 1)
      rw [Option.isNone_iff_eq_none.mp hn1] at q1
      rw [e2] at q2
      have q1 := List.getElem?_eq_none_iff.mp q1.symm
      obtain ⟨q2, _⟩ := List.getElem?_eq_some_iff.mp q2.symm
      simp only [List.length_cons] at q1 q2 ⊢
      omega
    cases es with
    | nil => exact ff cls
    | cons a es =>
      have c2 : (chk gn N sc a l && chks gn N sc es ls) = true := cls
      rw [Bool.and_eq_true] at c2
      refine PS_imp (L2.ps_raise C.C.calm C.C.takes (pmk_own (k := k) ok (C.C.room2.mono (by omega)) gl hm hes db (star_one (chk_plain c2.1).1) (chks_plain c2.2 _ _))) fun D σ H q => ?_
      obtain ⟨G, s, F, R, p⟩ := q
      have p : PostS g W cs σ G H (Own F) D ((evs Γ (.cons a es) s).bind fun vs s' => .exc ⟨c, vs⟩ s') := p
      refine S_bindE (f := evs Γ (.cons a es)) poor_Vs R p fun xs H1 G1 s1 F1 vs t1 R1 hvs p hf => ?_
      have hz : xs.length = (g.xfn c).length := by rw [← hvs.2.length, hfl, evs_len hf, chks_len cls]
      refine ⟨hz, fun d hd => ?_⟩
      exact p _ _ σ F1 d Keep.refl (Stp.newG R1.sub hd) (R1.newG hd) ⟨xs, upd_same, Reps.mono (same_upd (by
        cases z : G1 d with
        | none => rfl
        | some o => rw [R1.sub _ _ z] at hd; cases hd)) _ _ hvs.2⟩
/-- x.f = e -/
theorem s_setFld (C : CxF g gn Γ N k sc W X) {c i j : Nat} {m : Str} {pm : Pos} (hf : isO (gn.fld c j) m = true) (hb : baseB x = true) (hv : varB N sc i x = true) (hc : isComp y = false) (cy : chk gn N sc a y = true) (hy : PE X y (T g W (RlO g) (ev Γ a))) :
    PS X (.Assign [.Attribute x m pm] y p) (TS g W cs (ex Γ cs (.setFld c i j a))) := by
  obtain ⟨t, e1, rfl⟩ := isO_ok hf
  obtain ⟨cl, hn, fo⟩ := C.C.fld c j t e1
  refine PS_imp (L2.ps_fld (look_name C.C (var_of hv)) (PE_frz hy) (swaps_no hc)) fun D σ H q => ?_
  obtain ⟨G, s, F, R, p⟩ := q
  have p : PostS g W cs σ G H (Own F) D ((frzR (ev Γ a s)).bind fun v s' => setFldR c i j v s') := p
  refine S_bind0 (f := fun s => frzR (ev Γ a s)) poor_V R p fun v H2 G1 s1 F1 w t1 R1 q p => ?_
  have p : PostS g W cs σ G1 H2 (Own F1) D (match getO s1 i with
    | .obj c' fs => if c' = c ∧ j = fs.length then .ok .nx (s1.set i (.obj c (fs ++ [w]))) else .bad
    | _ => .bad) := p
  cases hg : getO s1 i with
  | emp => rw [hg] at p; exact p.elim
  | sh v => rw [hg] at p; exact p.elim
  | kls c => rw [hg] at p; exact p.elim
  | lst xs => rw [hg] at p; exact p.elim
  | obj c' fs =>
    rw [hg] at p
    have p3 : PostS g W cs σ G1 H2 (Own F1) D (if c' = c ∧ j = fs.length then .ok .nx (s1.set i (.obj c (fs ++ [w]))) else .bad) := p
    clear p
    by_cases hcj : c' = c ∧ j = fs.length
    · rw [if_pos hcj] at p3
      obtain ⟨rfl, rfl⟩ := hcj
      obtain ⟨hi, kn, b, dx, vs, ew, ep, h1, r⟩ := at_obj R1 hg
      have hlen := r.length
      have few := fo.few
      have e2 := putF_zip (vs := vs) (y := v) fo.nd (by rw [← hlen]; exact hn)
      refine ⟨.ref b, ew, b, g.cl c', dx, _, rfl, h1, cl, fo.no _ (List.mem_of_getElem? hn), by rw [List.length_zip]; omega, ?_⟩
      rw [e2]
      obtain ⟨R2, o2⟩ := put_own R1 hi ew ep (u := .ins (g.cl c') dx ((g.fnm c').zip (vs ++ [v]))) (o := .obj c' (fs ++ [w])) ⟨kn, b, dx, vs ++ [v], ew, ep, upd_same, r.append (Reps.cons q.2 Reps.nil)⟩
      exact p3 G1 _ σ F1 Keep.refl o2 R2
    · rw [if_neg hcj] at p3
      exact p3.elim
end
end PF
set_option Elab.async false
set_option linter.all false
set_option maxRecDepth 100000
set_option maxHeartbeats 2000000
/-! PF, part t2: try. -/
namespace PF
open PySem PySem.Spec PyProof.Rows
open L2 (V Hp HO upd upd_same upd_ne Same SqL SqT WX PE PT PA PC PS PSs OpR CallR IxR SlR MtR TruR VK Ends)
/-! ### a suite's expressions -/
structure Hot (g : Gm) (i : Option Nat) (a : Addr) (cls : Value) (d : Option Addr) (x : PExc) (σ : L2.St) (G : Hp) : Prop where
  cls : cls = .ref (g.xcl x.c)
  d : ∃ dd, d = some dd ∧ XR g G x dd
  at_ : ∀ j, i = some j → σ[j]? = some (some (.ref a))
def TH (g : Gm) (i : Option Nat) (a : Addr) (cls : Value) (d : Option Addr) {α β : Type} (Rl : RL α β) (f : PExc → S → Res α) : L2.St → Hp → (β → Hp → Prop) → Prop := fun σ H Q => ∃ x G s F, Hot g i a cls d x σ G ∧ RS g G H s σ F ∧ Post g W0 σ G H (Own F) Rl Q (f x s)
theorem Hot.mono {g : Gm} {i : Option Nat} {a : Addr} {cls : Value} {d : Option Addr} {x : PExc} {σ : L2.St} {G G' : Hp} (h : Hot g i a cls d x σ G) (m : Same G G') : Hot g i a cls d x σ G' :=
  ⟨h.cls, let ⟨dd, e, vs, h1, r⟩ := h.d; ⟨dd, e, vs, m _ _ h1, Reps.mono m _ _ r⟩, h.at_⟩
section
variable {g : Gm} {gn : GN} {Γ : Env} {N : List Tx} {k : Nat} {sc : Scope} {W : WX} {X : L2.Cx} {σ σ1 : L2.St} {H G H1 G1 : Hp} {A A1 : Fp} {l r t y e : Expr} {p : Pos} {s : S} {F : Nat → Fp} {cs : List Nat} {D D' : Ends} {ls : List Expr} {i : Option Nat} {a : Addr} {cls : Value} {d : Option Addr} {oe : Obj} {pn : List (Addr × Obj)} {xn : Option Str} {xc : Nat}
theorem H_bind {α β γ δ : Type} {f : S → Res α} {Rl : RL α β} {Rl2 : RL γ δ} {kk : α → S → Res γ} {Q : δ → Hp → Prop} {Q2 : β → Hp → Prop} (n : Poor Rl) (R : RS g G H s σ F) (p : Post g W0 σ G H (Own F) Rl2 Q ((f s).bind kk))
    (h : ∀ y H2 G1 s1 F1 w, Same G G1 → RS g G1 H2 s1 σ F1 → Rl σ s1 G1 H2 w y none_ → Post g W0 σ G1 H2 (Own F1) Rl2 Q (kk w s1) → Q2 y H2) : Post g W0 σ G H (Own F) Rl Q2 (f s) := by
  cases hf : f s with
  | bad => rw [hf] at p; exact p
  | exc e s1 => rw [hf] at p; exact p
  | ok w s1 =>
    rw [hf] at p
    intro G' H' F' P b t R1 d q
    have e := poor_none (n _ _ _ _ _ _ _ q)
    subst e
    exact h b H' G' s1 F' w t.g R1 q ((p : Post g W0 σ G H (Own F) Rl2 Q (kk w s1)).stp t |>.sup fun _ z => .inr z)
theorem TH_here {Q : VK} {v : PV} {x : V} (R : RS g G H s σ F) (h : Post g W0 σ G H (Own F) (RlO g) Q (.ok (.sh v) s)) (r : Rep g G v x) : Q x H := here_sh R h r
theorem PE_hfrz {f : PExc → S → Res OV} (h : PE X e (TH g i a cls d (RlO g) f)) : PE X e (TH g i a cls d (RlV g) fun x s => frzR (f x s)) :=
  PE_imp h fun σ H Q ⟨x, G, s, F, ho, R, p⟩ => ⟨x, G, s, F, ho, R, p.frz⟩
theorem xn_of {nm : Option Str} {x : Str} (hs : slotB N sc i nm = true) (hx : some x = nm) : ∃ j, i = some j ∧ isNm N j x = true ∧ sc.names.lookup x = some .local := by
  subst hx
  cases i with
  | none => exact ff hs
  | some j =>
    have hs : (isNm N j x && decide (sc.names.lookup x = some .local)) = true := hs
    rw [Bool.and_eq_true, decide_eq_true_eq] at hs
    exact ⟨j, rfl, hs.1, hs.2⟩
/-- x.f, x the caught exception -/
theorem h_xf (C : Cxt g gn Γ N k sc W X) (hz : L2.Zc cls d oe) (hf : ∃ vs, oe.data = .fields vs) (hs : slotB N sc i xn = true) {x m : Str} {p1 p2 : Pos} {j : Nat} (h1 : some x = xn) (h3 : noDbg x = true) (h4 : isO (gn.xfl xc j) m = true) {Q2 : Prop} :
    ∃ te : L2.TE, PE (X.suite a ((a, oe) :: pn)) (.Attribute (.Name x p1) m p2) te ∧ ∀ {x : PExc} {σ : L2.St} {G H : Hp} {Q : VK} {v : PV}, Hot g i a cls d x σ G → Same G H → x.c = xc → x.fs[j]? = some v → (∀ u, Rep g G v u → Q u H) → te σ H Q := by
  obtain ⟨jj, rfl, n1, n2⟩ := xn_of hs h1
  obtain ⟨t, e1, rfl⟩ := isO_ok h4
  obtain ⟨ok, nm⟩ := C.xok xc j t e1
  have hj : (g.xfn xc)[j]? = some (mkS t) := by rw [← nm j, e1]; rfl
  have hv : PE (X.suite a ((a, oe) :: pn)) (.Name x p1) (L2.tVar jj) := L2.pe_var (X := X.suite a ((a, oe) :: pn)) (by show X.N[jj]? = _; rw [C.hN]; exact isNm_ok n1) (.inl (by show X.env.scope.names.lookup x = _; rw [C.hsc]; exact n2)) (noDbg_ok h3).1 (noDbg_ok h3).2
  refine ⟨_, L2.pe_xf ok.xf (ok.no _ (List.mem_of_getElem? hj)) hz hf hv rfl, fun {x σ G H Q v} ho mm hc hv hq => ?_⟩
  obtain ⟨dd, ed, vs, h5, r⟩ := ho.d
  obtain ⟨u, eu, ru⟩ := r.get hv
  rw [hc] at h5
  exact ⟨.ref a, ho.at_ jj rfl, rfl, by rw [ho.cls, hc], dd, _, u, ed, mm _ _ h5, zip_look ok.nd hj eu, hq u ru⟩
mutual
theorem h_ok (C : Cxt g gn Γ N k sc W X) (hz : L2.Zc cls d oe) (hf : ∃ vs, oe.data = .fields vs) (hs : slotB N sc i xn = true) : ∀ (m : HEx) {e : Expr}, chkH gn N sc xn xc m e = true → PE (X.suite a ((a, oe) :: pn)) e (TH g i a cls d (RlO g) fun x => hev Γ x m)
  | .int z, e, h => by
    cases e <;> first | exact ff h | skip
    rename_i c n p
    cases c <;> first | exact ff h | skip
    rename_i j
    have e : z = j := of_decide_eq_true h
    subst e
    exact PE_imp L2.pe_int fun σ H Q ⟨x, G, s, F, ho, R, p⟩ => here_sh R p rep_int
  | .bl z, e, h => by
    cases e <;> first | exact ff h | skip
    rename_i c n p
    cases c <;> first | exact ff h | skip
    rename_i j
    have e : z = j := beq_iff_eq.mp h
    subst e
    exact PE_imp L2.pe_bl fun σ H Q ⟨x, G, s, F, ho, R, p⟩ => here_sh R p rep_bl
  | .non, e, h => by
    cases e <;> first | exact ff h | skip
    rename_i c n p
    cases c <;> first | exact ff h | skip
    exact PE_imp L2.pe_non fun σ H Q ⟨x, G, s, F, ho, R, p⟩ => here_sh R p rfl
  | .str z, e, h => by
    cases e <;> first | exact ff h | skip
    rename_i c n p
    cases c <;> first | exact ff h | skip
    rename_i j
    have e : mkS z = j := of_decide_eq_true h
    subst e
    exact PE_imp L2.pe_str fun σ H Q ⟨x, G, s, F, ho, R, p⟩ => here_sh R p rfl
  | .var j, e, h => by
    have h2 := var_of (gn := gn) h
    obtain ⟨x, p, rfl, h1, h3, h4⟩ := chk_var h2
    obtain ⟨d1, d2⟩ := noDbg_ok h4
    have hv : PE (X.suite a ((a, oe) :: pn)) (.Name x p) (L2.tVar j) := L2.pe_var (X := X.suite a ((a, oe) :: pn)) (by show X.N[j]? = _; rw [C.hN]; exact isNm_ok h1) (by show L2.Vis X.env.scope x; rw [C.hsc]; exact visB_ok h3) d1 d2
    refine PE_imp hv fun σ H Q ⟨x, G, s, F, ho, R, p⟩ => ?_
    have p : Post g W0 σ G H (Own F) (RlO g) Q ((Res.opt (getV s j) s).bind fun v s' => .ok (.sh v) (if (getO s j).own then s'.set j (.sh v) else s')) := p
    cases hv : getV s j with
    | none => rw [hv] at p; exact p.elim
    | some v =>
      rw [hv] at p
      obtain ⟨G', F', x, t, R', ex, r⟩ := R.thaw hv
      exact ⟨x, ex, p G' H F' none_ x (t.sub fun c z => z.elim (fun z => z.elim) id) R' (fun _ z => z.elim) ⟨fun _ z => z, x, rfl, r⟩⟩
  | .fld c j, e, h => by
    cases e <;> first | exact ff h | skip
    rename_i o m p
    cases o <;> first | exact ff h | skip
    rename_i x p1
    have h : (decide (some x = xn) && decide (c = xc) && noDbg x && isO (gn.xfl xc j) m) = true := h
    simp only [Bool.and_eq_true, decide_eq_true_eq] at h
    obtain ⟨⟨⟨h1, rfl⟩, h3⟩, h4⟩ := h
    obtain ⟨te, hp, rd⟩ := h_xf (a := a) (pn := pn) (p1 := p1) (p2 := p) (Q2 := True) C hz hf hs h1 h3 h4
    refine PE_imp hp fun σ H Q ⟨x, G, s, F, ho, R, p⟩ => ?_
    have p : Post g W0 σ G H (Own F) (RlO g) Q (if x.c = c then Res.opt ((x.fs[j]?).map .sh) s else .bad) := p
    by_cases hc : x.c = c
    · rw [if_pos hc] at p
      cases hv : x.fs[j]? with
      | none => rw [hv] at p; exact p.elim
      | some v =>
        rw [hv] at p
        exact rd ho R.sub hc hv fun u ru => here_sh R p ru
    · rw [if_neg hc] at p; exact p.elim
  | .rpr c j, e, h => by
    cases e <;> first | exact ff h | skip
    rename_i fn ar ks p
    cases fn <;> first | exact ff h | skip
    rename_i rn pr
    rcases ar with _ | ⟨y, _ | ⟨y2, ar⟩⟩ <;> first | exact ff h | (cases y <;> exact ff h) | skip
    · cases y <;> first | exact ff h | skip
      rename_i o m p2
      cases o <;> first | exact ff h | skip
      rename_i x p1
      cases ks <;> first | exact ff h | skip
      have h : (decide (rn = ("repr" : Str)) && glB sc rn && decide (some x = xn) && decide (c = xc) && noDbg x && isO (gn.xfl xc j) m) = true := h
      simp only [Bool.and_eq_true, decide_eq_true_eq] at h
      obtain ⟨⟨⟨⟨⟨rfl, hg⟩, h1⟩, rfl⟩, h3⟩, h4⟩ := h
      obtain ⟨te, hp, rd⟩ := h_xf (a := a) (pn := pn) (p1 := p1) (p2 := p2) (Q2 := True) C hz hf hs h1 h3 h4
      obtain ⟨n1, n2, n3⟩ := biS_ok .repr
      obtain ⟨gl, _⟩ := glB_ok C hg
      have hu : X.A.units + 100 < cLine := by have := C.room.un; omega
      refine PE_imp (L2.pe_callB (X := X.suite a ((a, oe) :: pn)) (call_reprV (X := X.suite a ((a, oe) :: pn)) C.hK C.gd hu) gl (C.mgB .repr) n3 (L2.pa_cons hp L2.pa_nil rfl) n1 n2 rfl rfl) fun σ H Q ⟨x, G, s, F, ho, R, p⟩ => ?_
      have p : Post g W0 σ G H (Own F) (RlO g) Q (if x.c = c then Res.opt ((x.fs[j]?).bind fun v => (reprV v).map fun t => .sh (.str t)) s else .bad) := p
      by_cases hc : x.c = c
      · rw [if_pos hc] at p
        cases hv : x.fs[j]? with
        | none => rw [hv] at p; exact p.elim
        | some v =>
          rw [hv] at p
          have p : Post g W0 σ G H (Own F) (RlO g) Q (Res.opt ((reprV v).map fun t => .sh (.str t)) s) := p
          obtain ⟨ov, e, p⟩ := Post.opt p
          exact rd ho R.sub hc hv fun u ru => ⟨G, [v], ov, R.sub, .inl ⟨v, u, rfl, rfl, PkR.of R.sub ru⟩, e, p.out R⟩
      · rw [if_neg hc] at p; exact p.elim
    · cases y <;> first | exact ff h | skip
      rename_i o m p2
      cases o <;> exact ff h
  | .isx _, e, h => ff h
  | .lst es, e, h => by
    cases e <;> first | exact ff h | skip
    rename_i l p
    have h : (decide (l.length ≤ 1000) && chkHs gn N sc xn xc es l) = true := h
    simp only [Bool.and_eq_true, decide_eq_true_eq] at h
    obtain ⟨h2, h3⟩ := hs_ok C hz hf hs es h.2
    refine PE_imp (L2.pe_lst h2) fun σ H Q ⟨x, G, s, F, ho, R, p⟩ => ?_
    have p : Post g W0 σ G H (Own F) (RlO g) Q ((hevs Γ x es s).bind fun vs s' => .ok (.lst vs) s') := p
    refine ⟨x, G, s, F, ho, R, ?_⟩
    have key : ∀ vs s', hevs Γ x es s = .ok vs s' → vs.length = l.length := fun vs s' q => h3 x s s' vs q
    show Post g W0 σ G H (Own F) (RlVs g) _ (hevs Γ x es s)
    cases hh : hevs Γ x es s with
    | bad => rw [hh] at p; exact p
    | exc e s1 => rw [hh] at p; exact p
    | ok vs s1 =>
      rw [hh] at p
      intro G' H' F' P ys t R1 dd q
      have e := poor_none (poor_Vs _ _ _ _ _ _ _ q)
      subst e
      have p : Post g W0 σ G' H' (Own F') (RlO g) Q (.ok (.lst vs) s1) := ((p : Post g W0 σ G H (Own F) (RlO g) Q (.ok (.lst vs) s1)).stp t).sup fun _ z => .inr z
      have hl : ys.length ≤ 1000 := by rw [← q.2.length, key _ _ hh]; exact h.1
      exact ⟨Nat.le_trans hl (by rw [sizeLine_eq]; decide), fun z n => (p.out R1).lst R1.sub q.2 n⟩
theorem hs_ok (C : Cxt g gn Γ N k sc W X) (hz : L2.Zc cls d oe) (hf : ∃ vs, oe.data = .fields vs) (hs : slotB N sc i xn = true) : ∀ (m : HExs) {l : List Expr}, chkHs gn N sc xn xc m l = true → PA (X.suite a ((a, oe) :: pn)) l (TH g i a cls d (RlVs g) fun x => hevs Γ x m) ∧ ∀ x s s' vs, hevs Γ x m s = .ok vs s' → vs.length = l.length
  | .nil, l, h => by
    cases l with
    | cons x l => exact ff h
    | nil => exact ⟨PA_imp L2.pa_nil fun σ H Q ⟨x, G, s, F, ho, R, p⟩ => Post.here (a := ([] : List PV)) (b := ([] : List V)) R p ⟨fun _ z => z, rfl⟩, fun x s s' vs q => by cases (show Res.ok [] s = Res.ok vs s' from q); rfl⟩
  | .cons m ms, l, h => by
    cases l with
    | nil => exact ff h
    | cons y l =>
      have h : (chkH gn N sc xn xc m y && chkHs gn N sc xn xc ms l) = true := h
      rw [Bool.and_eq_true] at h
      have h1 := h_ok C hz hf hs m h.1
      obtain ⟨h2, h3⟩ := hs_ok C hz hf hs ms h.2
      have st : starEach (y :: l) (X.suite a ((a, oe) :: pn)).env = (false, eval y (X.suite a ((a, oe) :: pn)).env) :: starEach l (X.suite a ((a, oe) :: pn)).env := by
        have q := h.1
        refine star_one fun b c z => ?_
        subst z
        cases m <;> exact ff q
      refine ⟨PA_imp (L2.pa_cons (PE_hfrz h1) h2 st) fun σ H Q ⟨x, G, s, F, ho, R, p⟩ => ?_, fun x s s' vs q => ?_⟩
      · have p : Post g W0 σ G H (Own F) (RlVs g) Q ((frzR (hev Γ x m s)).bind fun v s' => (hevs Γ x ms s').bind fun vs s'' => .ok (v :: vs) s'') := p
        refine ⟨x, G, s, F, ho, R, H_bind (f := fun s => frzR (hev Γ x m s)) poor_V R p fun u H1 G1 s1 F1 v m1 R1 hv p1 => ?_⟩
        refine ⟨x, G1, s1, F1, ho.mono m1, R1, H_bind (f := hevs Γ x ms) poor_Vs R1 p1 fun us H2 G2 s2 F2 vs m2 R2 hvs p2 => ?_⟩
        exact Post.here (a := v :: vs) R2 p2 ⟨fun _ z => z, Reps.cons (Rep.mono m2 _ _ hv.2) hvs.2⟩
      · have q : ((frzR (hev Γ x m s)).bind fun v s' => (hevs Γ x ms s').bind fun vs s'' => .ok (v :: vs) s'') = .ok vs s' := q
        obtain ⟨v, s1, _, q⟩ := bind_some q
        obtain ⟨ws, s2, e, q⟩ := bind_some q
        cases q
        show ws.length + 1 = l.length + 1
        rw [h3 _ _ _ _ e]
end
end
end PF
set_option Elab.async false
set_option linter.all false
set_option maxRecDepth 100000
set_option maxHeartbeats 2000000
/-! PF, part t3: the suites; try. -/
namespace PF
open PySem PySem.Spec PyProof.Rows
open L2 (V Hp HO upd upd_same upd_ne Same SqL SqT WX PE PT PA PC PS PSs OpR CallR IxR SlR MtR TruR VK Ends)
/-- a suite -/
def HS (g : Gm) (Γ : Env) (cs : List Nat) (i : Option Nat) (b : HSt) : SuT := fun a cls d D σ H => ∃ x G s F, Hot g i a cls d x σ G ∧ RS g G H s σ F ∧ PostS g W0 cs σ G H (Own F) D (hex Γ cs x b s)
section
variable {g : Gm} {gn : GN} {Γ : Env} {N : List Tx} {k : Nat} {sc : Scope} {W : WX} {X : L2.Cx} {σ σ1 : L2.St} {H G H1 G1 : Hp} {A A1 : Fp} {l r t y e : Expr} {p : Pos} {s : S} {F : Nat → Fp} {cs : List Nat} {D D' : Ends} {ls : List Expr} {i : Option Nat} {a : Addr} {cls : Value} {d : Option Addr} {oe : Obj} {pn : List (Addr × Obj)} {xn : Option Str} {xc : Nat}
/-- a value, then what is done with it -/
theorem HS_bind {f : S → Res OV} {kk : OV → S → Res Fl} {Q2 : V → Hp → Prop} (R : RS g G H s σ F) (p : PostS g W0 cs σ G H (Own F) D ((f s).bind kk))
    (h : ∀ y H2 G1 s1 F1 w P, RS g G1 H2 s1 σ F1 → (∀ c, P c → G1 c = none ∧ ¬ Own F1 c) → OvR g G1 H2 w (some (some y)) P → PostS g W0 cs σ G1 H2 (fun c => P c ∨ Own F1 c) D (kk w s1) → Q2 y H2) : Post g W0 σ G H (Own F) (RlO g) Q2 (f s) := by
  cases hf : f s with
  | bad => rw [hf] at p; exact p
  | exc e s1 =>
    rw [hf] at p
    exact fun G' H' F' d t R' x => p G' H' σ F' d Keep.refl t R' x
  | ok o s1 =>
    rw [hf] at p
    exact fun G' H' F' P b t R1 d q => h b H' G' s1 F' o P R1 d q ((p : PostS g W0 cs σ G H (Own F) D (kk o s1)).stp Keep.refl t)
theorem hst_ok (C : CxF g gn Γ N k sc W X) (hz : L2.Zc cls d oe) (hf : ∃ vs, oe.data = .fields vs) (hs : slotB N sc i xn = true) : ∀ (m : HSt) {l : List Stmt}, chkHSt gn N sc xn xc m l = true → (∃ b r, l = b :: r) ∧ PSs (X.suite a ((a, oe) :: pn)) l (HS g Γ cs i m a cls d)
  | .ret m, l, h => by
    rcases l with _ | ⟨st, _ | ⟨st2, l⟩⟩ <;> first | exact ff h | (cases st <;> first | exact ff h | (rename_i o p; cases o <;> exact ff h)) | skip
    cases st <;> first | exact ff h | skip
    rename_i o p
    cases o <;> first | exact ff h | skip
    rename_i y
    refine ⟨⟨_, _, rfl⟩, PSs_imp (L2.pss_one (L2.ps_ret (h_ok C.C hz hf hs m h))) fun D σ H ⟨x, G, s, F, ho, R, p⟩ => ?_⟩
    have p : PostS g W0 cs σ G H (Own F) D ((hev Γ x m s).bind fun o s' => .ok (.rt o) s') := p
    exact ⟨x, G, s, F, ho, R, HS_bind (f := hev Γ x m) R p fun y H2 G1 s1 F1 w P R1 d q p => p G1 H2 σ F1 P y Keep.refl Stp.refl R1 d q⟩
  | .set j m, l, h => by
    rcases l with _ | ⟨st, _ | ⟨st2, l⟩⟩ <;> first | exact ff h | (cases st <;> first | exact ff h | (rename_i tl y p; rcases tl with _ | ⟨tg, _ | ⟨t2, tl⟩⟩ <;> exact ff h)) | skip
    cases st <;> first | exact ff h | skip
    rename_i tl y p
    rcases tl with _ | ⟨tg, _ | ⟨t2, tl⟩⟩ <;> first | exact ff h | skip
    have h : (notTup y && lone y && isNmL N sc j tg && chkH gn N sc xn xc m y) = true := h
    simp only [Bool.and_eq_true] at h
    obtain ⟨⟨⟨h1, h2⟩, h3⟩, h4⟩ := h
    obtain ⟨x, px, rfl, n1, n2⟩ := isNmL_ok h3
    have hsw : ∀ n, swapsWith y (some (.Name x px)) n X.env = pure false := fun n => by
      cases m <;> (cases y <;> first | exact ff h4 | rfl)
    refine ⟨⟨_, _, rfl⟩, PSs_imp (L2.pss_one (L2.ps_set (X := X.suite a ((a, oe) :: pn)) (i := j) C.C.nd (by show X.N[j]? = _; rw [C.C.hN]; exact isNm_ok n1) (by show L2.Loc X.env.scope x; rw [C.C.hsc]; exact n2) (h_ok C.C hz hf hs m h4) (hsw _) (.inl (C.fnT x)))) fun D σ H ⟨x, G, s, F, ho, R, p⟩ => ?_⟩
    have p : PostS g W0 cs σ G H (Own F) D ((hev Γ x m s).bind fun o s' => setV cs j o s') := p
    exact ⟨x, G, s, F, ho, R, HS_bind (f := hev Γ x m) R p fun y H2 G1 s1 F1 w P R1 d q p => set_nx R1 d q p⟩
  | .raiseN _ _, l, h => ff h
  | .pass, l, h => by
    rcases l with _ | ⟨st, _ | ⟨st2, l⟩⟩ <;> first | exact ff h | (cases st <;> exact ff h) | skip
    cases st <;> first | exact ff h | skip
    refine ⟨⟨_, _, rfl⟩, PSs_imp (L2.pss_one L2.ps_pass) fun D σ H ⟨x, G, s, F, ho, R, p⟩ => ?_⟩
    exact nx_here R p
/-! ### the clauses -/
/-- what the own clauses say -/
def cls_ (g : Gm) (Γ : Env) (cs : List Nat) : Hds → List Cl
  | .nil => []
  | .cons c i b r => ⟨.ref (g.xcl c), i, HS g Γ cs i b⟩ :: cls_ g Γ cs r
theorem RS.off {j : Nat} {w : Option V} (R : RS g G H s σ F) (hj : j < s.length) : RS g G H (s.set j .emp) (σ.set j w) (updF F j none_) :=
  R.put hj (fun _ z => z) (by simp) (fun m hne => by simp [List.getElem?_set_ne (Ne.symm hne)]) fun a z => z.elim
theorem own_off {j : Nat} {c : Addr} (h : Own (updF F j none_) c) : Own F c := Own.put h
theorem PostS.gone {j : Nat} {cs' : List Nat} {r : Res Fl} (hj : j < s.length) (hc : j ∉ cs) (w : Option V) (hl : s.length = σ.length) (p : PostS g W cs σ G H A D (hgoneR (some j) (noX r))) (A2 : ∀ c, A1 c → A c) (n : ∀ f s', r = .ok f s' → s'.length = s.length) :
    PostS g W0 cs (σ.set j w) G H A1 (offEnds (some j) D) r := by
  have kp : ∀ {σ'}, Keep cs (σ.set j w) σ' → Keep cs σ (σ'.set j none) := fun {σ'} z => ((Keep.set hc).trans z).trans (Keep.set hc)
  have kp2 : ∀ {σ'}, Keep cs (σ.set j w) σ' → Keep cs σ σ' := fun {σ'} z => (Keep.set hc).trans z
  cases r with
  | bad => exact p
  | exc e s1 => exact (show False from p).elim
  | ok f s1 =>
    have hj1 : j < s1.length := by rw [n f s1 rfl]; exact hj
    have p : PostS g W cs σ G H A D (.ok f (s1.set j .emp)) := p
    cases f with
    | nx => exact fun G' H' σ' F' z t R => p G' H' _ _ (kp z) ((t.sup A2).sub fun c q => own_off q) (R.off hj1)
    | bk => exact fun G' H' σ' F' z t R => p G' H' _ _ (kp z) ((t.sup A2).sub fun c q => own_off q) (R.off hj1)
    | ct => exact fun G' H' σ' F' z t R => p G' H' _ _ (kp z) ((t.sup A2).sub fun c q => own_off q) (R.off hj1)
    | rt o => exact fun G' H' σ' F' P x z t R d q => p G' H' _ _ P x (kp z) ((t.sup A2).sub fun c q => q.imp id own_off) (R.off hj1) (fun c pc => ⟨(d c pc).1, fun z => (d c pc).2 (own_off z)⟩) q
theorem opt_ok {α : Type} {o : Option α} {s s' : S} {v : α} (h : Res.opt o s = .ok v s') : s' = s := by
  cases o with
  | none => cases h
  | some a => cases h; rfl
theorem frz_ok {r : Res OV} {v : PV} {s' : S} (h : frzR r = .ok v s') : ∃ o, r = .ok o s' := by
  cases r with
  | ok o s1 =>
    have e := opt_ok (o := o.pv) (s := s1) h
    subst e
    exact ⟨o, rfl⟩
  | exc _ _ => cases h
  | bad => cases h
mutual
theorem hev_len : ∀ (m : HEx) {x : PExc} {s s' : S} {o : OV}, hev Γ x m s = .ok o s' → s'.length = s.length
  | .int _, x, s, s', o, h => by cases h; rfl
  | .bl _, x, s, s', o, h => by cases h; rfl
  | .non, x, s, s', o, h => by cases h; rfl
  | .str _, x, s, s', o, h => by cases h; rfl
  | .var j, x, s, s', o, h => by
    have h : ((Res.opt (getV s j) s).bind fun v s' => .ok (.sh v) (if (getO s j).own then s'.set j (.sh v) else s')) = .ok o s' := h
    obtain ⟨v, s1, e, h⟩ := bind_some h
    have e := opt_ok e
    subst e
    cases h
    split <;> simp
  | .fld c k, x, s, s', o, h => by
    have h : (if x.c = c then Res.opt ((x.fs[k]?).map .sh) s else .bad) = .ok o s' := h
    split at h
    · rw [opt_ok h]
    · cases h
  | .rpr c k, x, s, s', o, h => by
    have h : (if x.c = c then Res.opt ((x.fs[k]?).bind fun v => (reprV v).map fun t => OV.sh (.str t)) s else .bad) = .ok o s' := h
    split at h
    · rw [opt_ok h]
    · cases h
  | .isx c, x, s, s', o, h => by rw [opt_ok (show Res.opt ((Γ.sub x.c c).map fun b => OV.sh (.bl b)) s = .ok o s' from h)]
  | .lst es, x, s, s', o, h => by
    have h : ((hevs Γ x es s).bind fun vs s' => .ok (.lst vs) s') = .ok o s' := h
    obtain ⟨v, s1, e, h⟩ := bind_some h
    cases h
    exact hevs_len es e
theorem hevs_len : ∀ (m : HExs) {x : PExc} {s s' : S} {o : List PV}, hevs Γ x m s = .ok o s' → s'.length = s.length
  | .nil, x, s, s', o, h => by cases (show Res.ok [] s = Res.ok o s' from h); rfl
  | .cons m ms, x, s, s', o, h => by
    have h : ((frzR (hev Γ x m s)).bind fun v s' => (hevs Γ x ms s').bind fun vs s'' => .ok (v :: vs) s'') = .ok o s' := h
    obtain ⟨v, s1, e, h⟩ := bind_some h
    obtain ⟨ws, s2, e2, h⟩ := bind_some h
    cases h
    obtain ⟨o, e⟩ := frz_ok e
    rw [hevs_len ms e2, hev_len m e]
end
theorem hex_len {m : HSt} {x : PExc} {s s' : S} {f : Fl} (h : hex Γ cs x m s = .ok f s') : s'.length = s.length := by
  cases m with
  | ret e =>
    obtain ⟨v, s1, e1, h⟩ := bind_some (show ((hev Γ x e s).bind fun o s' => .ok (.rt o) s') = .ok f s' from h)
    cases h
    exact hev_len e e1
  | set j e =>
    obtain ⟨v, s1, e1, h⟩ := bind_some (show ((hev Γ x e s).bind fun o s' => setV cs j o s') = .ok f s' from h)
    have h : (if decide (j < s1.length) && !cs.contains j then .ok .nx (s1.set j v) else .bad : Res Fl) = .ok f s' := h
    split at h
    · cases h
      rw [List.length_set]; exact hev_len e e1
    · cases h
  | raiseN _ _ => cases h
  | pass => cases h; rfl
theorem wcls_ok (C : Cxt g gn Γ N k sc W X) {x : PExc} {dd : Addr} : ∀ (hs : Hds) {s : S} {σ : L2.St} {F : Nat → Fp}, RS g G H s σ F → XR g G x dd → PostS g W cs σ G H (Own F) D (hds Γ cs x hs s) → wCls X.K W D (cls_ g Γ cs hs) (.ref (g.xcl x.c)) (some dd) σ H
  | .nil, s, σ, F, R, xr, p => (show PostS g W cs σ G H (Own F) D (.exc x s) from p) G H σ F dd Keep.refl Stp.refl R xr
  | .cons c i b r, s, σ, F, R, xr, p => by
    have p : PostS g W cs σ G H (Own F) D (match Γ.sub x.c c with
      | some true => (match hslot cs i s with
        | some s' => hgoneR i (noX (hex Γ cs x b s'))
        | none => .bad)
      | some false => hds Γ cs x r s
      | none => .bad) := p
    cases hb : Γ.sub x.c c with
    | none => rw [hb] at p; exact p.elim
    | some v =>
      rw [hb] at p
      refine ⟨v, C.sub _ _ _ hb, fun e a na => ?_, fun e => ?_⟩
      · subst e
        have p : PostS g W cs σ G H (Own F) D (match hslot cs i s with
          | some s' => hgoneR i (noX (hex Γ cs x b s'))
          | none => .bad) := p
        cases i with
        | none =>
          have p : PostS g W cs σ G H (Own F) D (noX (hex Γ cs x b s)) := by
            have p : PostS g W cs σ G H (Own F) D (hgoneR none (noX (hex Γ cs x b s))) := p
            cases hh : hex Γ cs x b s with
            | ok f s1 => rw [hh] at p; exact p
            | exc e s1 => rw [hh] at p; exact p
            | bad => rw [hh] at p; exact p
          refine ⟨x, G, s, F, ⟨rfl, ⟨dd, rfl, xr⟩, fun j z => by cases z⟩, R, ?_⟩
          show PostS g W0 cs σ G H (Own F) D (hex Γ cs x b s)
          cases hh : hex Γ cs x b s with
          | ok f s1 =>
            rw [hh] at p
            cases f <;> exact p
          | exc e s1 => rw [hh] at p; exact (show False from p).elim
          | bad => rw [hh] at p; exact p
        | some j =>
          by_cases hc : (decide (j < s.length) && !cs.contains j) = true
          · have e : hslot cs (some j) s = some (s.set j .emp) := if_pos hc
            rw [e] at p
            simp only [Bool.and_eq_true, decide_eq_true_eq, Bool.not_eq_true', List.contains_eq_mem, decide_eq_false_iff_not] at hc
            have hj : j < σ.length := by rw [← R.len]; exact hc.1
            refine ⟨x, G, s.set j .emp, _, ⟨rfl, ⟨dd, rfl, xr⟩, fun m z => ?_⟩, R.off hc.1, ?_⟩
            · cases z
              show (σ.set j (some (.ref a)))[j]? = _
              rw [List.getElem?_set_self hj]
            · exact PostS.gone (s := s) (cs' := cs) hc.1 hc.2 (some (.ref a)) R.len p (fun c q => own_off q) fun f s' q => by rw [hex_len q, List.length_set]
          · have e : hslot cs (some j) s = none := if_neg hc
            rw [e] at p; exact p.elim
      · subst e
        exact wcls_ok C r R xr p
theorem clsOk (C : CxF g gn Γ N k sc W X) : ∀ (hs : Hds) {l : List ExceptHandler}, chkHds gn N sc hs l = true → ClsOk X l (cls_ g Γ cs hs)
  | .nil, l, h => by
    cases l with
    | nil => exact .nil
    | cons x l => exact ff h
  | .cons c i b r, l, h => by
    unfold chkHds at h
    split at h
    · rename_i x np nm su pos' l
      simp only [Bool.and_eq_true] at h
      obtain ⟨⟨⟨⟨h1, h2⟩, h3⟩, h4⟩, h5⟩ := h
      obtain ⟨t, e1, rfl⟩ := isO_ok h1
      obtain ⟨gl, db⟩ := glB_ok C.C h2
      have hm := C.C.exc c t e1
      obtain ⟨⟨b0, r0, rfl⟩, _⟩ := hst_ok (cs := cs) (a := 0) (oe := { cls := .ref (g.xcl c), data := .fields #[] }) (cls := .ref (g.xcl c)) (d := none) (pn := []) C ⟨rfl, rfl⟩ ⟨_, rfl⟩ h3 b h4
      refine .cons ⟨gl, db, .inl hm⟩ ?_ (fun a oe cls d pn hz hf => (hst_ok C hz hf h3 b h4).2) (clsOk C r h5)
      show NmOk X i nm
      cases i with
      | none =>
        cases nm with
        | none => rfl
        | some x => exact ff h3
      | some j =>
        cases nm with
        | none => exact ff h3
        | some x =>
          have h3 : (isNm N j x && decide (sc.names.lookup x = some .local)) = true := h3
          rw [Bool.and_eq_true, decide_eq_true_eq] at h3
          refine ⟨x, rfl, by rw [C.C.hN]; exact isNm_ok h3.1, ?_⟩
          show X.env.scope.names.lookup x = some .local
          rw [C.C.hsc]; exact h3.2
    · cases h
theorem CxF.tr (C : CxF g gn Γ N k sc W X) {W' : WX} {pn : List (Addr × Obj)} {xe : Value → Shared → Prop} (tk : L2.Takes (X.tr pn xe) W') (po : PassesOwn (model X.prog X.w) X.A X.env xe) : CxF g gn Γ N k sc W' (X.tr pn xe) where
  C := {
    hK := C.C.hK
    hN := C.C.hN
    nd := C.C.nd
    hsc := C.C.hsc
    calm := C.C.calm
    takes := tk
    room := C.C.room
    gd := C.C.gd
    glb := C.C.glb
    fn := C.C.fn
    cls := C.C.cls
    ins := C.C.ins
    mgB := C.C.mgB
    mgT := C.C.mgT
    mgR := C.C.mgR
    room2 := C.C.room2
    fld := C.C.fld
    mth := C.C.mth
    dfl := C.C.dfl
    exc := C.C.exc
    xok := C.C.xok
    sub := C.C.sub }
  po := po
  fnT := C.fnT
  stk := C.stk
  frm := C.frm
theorem s_try (C : CxF g gn Γ N k sc W X) {b : Sts} {hs : Hds} {body : List Stmt} {hl : List ExceptHandler} (hne : hl.isEmpty = false) (hb : ∀ {W' : WX} {X' : L2.Cx}, CxF g gn Γ N k sc W' X' → PSs X' body (TS g W' cs (exs Γ cs b))) (hh : chkHds gn N sc hs hl = true) :
    PS X (.Try body hl [] [] p) (TS g W cs (ex Γ cs (.tryx b hs))) := by
  cases hl with
  | nil => cases hne
  | cons h0 hl =>
    refine PS_imp (ps_try_cls (Wout := W) (tb := fun W' => TS g W' cs (exs Γ cs b)) C.stk C.frm C.C.nd C.C.takes (fun W' pn xe tk po => hb (C.tr tk po)) (clsOk (cs := cs) C hs hh)) fun D σ H q => ?_
    obtain ⟨G, s, F, R, p⟩ := q
    have p : PostS g W cs σ G H (Own F) D (tryR (fun x s' => hds Γ cs x hs s') (exs Γ cs b s)) := p
    refine ⟨G, s, F, R, ?_⟩
    cases hx : exs Γ cs b s with
    | bad => rw [hx] at p; exact p
    | ok f s1 =>
      rw [hx] at p
      cases f <;> exact p
    | exc e s1 =>
      rw [hx] at p
      intro G' H' σ' F' d kp t R' xr
      have p2 : PostS g W cs σ' G' H' (Own F') D (hds Γ cs e hs s1) := PostS.stp kp t p
      exact wcls_ok C.C hs R' xr p2
end
end PF
set_option Elab.async false
set_option linter.all false
set_option maxRecDepth 100000
set_option maxHeartbeats 2000000
/-! PF, part p: control flow; every statement. -/
namespace PF
open PySem PySem.Spec PyProof.Rows
open L2 (V Hp HO upd upd_same upd_ne Same SqL SqT WX PE PT PA PC PS PSs OpR CallR IxR SlR MtR TruR VK Ends)
section
variable {g : Gm} {gn : GN} {Γ : Env} {N : List Tx} {k : Nat} {sc : Scope} {W : WX} {X : L2.Cx} {σ σ1 : L2.St} {H G H1 G1 : Hp} {A A1 : Fp} {a b c : Ex} {l r t x y e : Expr} {p : Pos} {s : S} {F : Nat → Fp} {cs : List Nat} {D D' : Ends} {ba bb : Sts} {xs ys : List Stmt}
theorem s_if (hc : PT X t (T g W RlB (te Γ c))) (ha : PSs X xs (TS g W cs (exs Γ cs ba))) (hb : PSs X ys (TS g W cs (exs Γ cs bb))) : PS X (.If t xs ys p) (TS g W cs (ex Γ cs (.ifs c ba bb))) := by
  refine PS_imp (L2.ps_if hc ha hb) fun D σ H q => ?_
  obtain ⟨G, s, F, R, p⟩ := q
  have p : PostS g W cs σ G H (Own F) D ((te Γ c s).bind fun k s' => if k then exs Γ cs ba s' else exs Γ cs bb s') := p
  refine S_bind0 (f := te Γ c) poor_B R p fun d H1 G1 s1 F1 w t1 R1 hw p => ?_
  have e := hw.2
  subst e
  cases w with
  | true => exact ⟨G1, s1, F1, R1, p⟩
  | false => exact ⟨G1, s1, F1, R1, p⟩
theorem s_while (C : CxF g gn Γ N k sc W X) (hc : PT X t (T g W RlB (te Γ c))) (hb : PSs X xs (TS g W cs (exs Γ cs ba))) : PS X (.While t xs [] p) (TS g W cs (ex Γ cs (.while_ c ba))) := by
  refine PS_imp (L2.ps_while C.po hc hb) fun D σ H q => ?_
  obtain ⟨G, s, F, R, p⟩ := q
  have p : PostS g W cs σ G H (Own F) D (whileL (te Γ c) (exs Γ cs ba) wf s) := p
  let Iv : Nat → L2.St → Hp → Prop := fun m σ' H' => ∃ G' s' F', RS g G' H' s' σ' F' ∧ PostS g W cs σ' G' H' (Own F') D (whileL (te Γ c) (exs Γ cs ba) m s')
  refine ⟨Iv, ⟨wf, G, s, F, R, p⟩, fun m σ H ⟨G, s, F, R, p⟩ => ?_⟩
  cases m with
  | zero => exact (show False from p).elim
  | succ m =>
    have p : PostS g W cs σ G H (Own F) D ((te Γ c s).bind fun k s1 => if k then (exs Γ cs ba s1).bind fun f s' => match f with
      | .nx => whileL (te Γ c) (exs Γ cs ba) m s'
      | .ct => whileL (te Γ c) (exs Γ cs ba) m s'
      | .bk => .ok .nx s'
      | .rt o => .ok (.rt o) s'
      else .ok .nx s1) := p
    refine S_bind0 (f := te Γ c) poor_B R p fun d H1 G1 s1 F1 w t1 R1 hw p => ?_
    have e := hw.2
    subst e
    cases w with
    | false => exact nx_here R1 p
    | true =>
      have p : PostS g W cs σ G1 H1 (Own F1) D ((exs Γ cs ba s1).bind fun f s' => match f with
        | .nx => whileL (te Γ c) (exs Γ cs ba) m s'
        | .ct => whileL (te Γ c) (exs Γ cs ba) m s'
        | .bk => .ok .nx s'
        | .rt o => .ok (.rt o) s') := p
      refine ⟨Iv m, fun σ' H' h => ⟨m, Nat.lt_succ_self m, h⟩, G1, s1, F1, R1, ?_⟩
      cases hx : exs Γ cs ba s1 with
      | bad => rw [hx] at p; exact p
      | exc e s2 => rw [hx] at p; exact p
      | ok f s2 =>
        rw [hx] at p
        cases f with
        | nx => exact fun G' H' σ' F' z t R' => ⟨G', s2, F', R', PostS.stp z t p⟩
        | ct => exact fun G' H' σ' F' z t R' => ⟨G', s2, F', R', PostS.stp z t p⟩
        | bk => exact p
        | rt o => exact p
/-- a body under whatever lock -/
theorem PSs_any {α : Type} {t : α → L2.TS} (h : ∀ a, PSs X xs (t a)) : PSs X xs (fun D σ H => ∃ a, t a D σ H) := ⟨fun pins s σ H D I ⟨a, q⟩ => (h a).run pins s σ H D I q⟩
theorem poor_S : Poor (RlS g) := fun _ _ _ _ _ _ _ h => h.1
theorem s_for (C : CxF g gn Γ N k sc W X) {tg : Tg} {src : Src} {it : Expr} (ht : chkT N sc (fun _ => true) tg t = true) (hn : ∀ env x, foldedSetIterable it env x = pure x) (hi : L2.PI X t it (TI g W (srcs Γ src))) (hb : ∀ cs, PSs X xs (TS g W cs (exs Γ cs ba))) :
    PS X (.For t it xs [] p) (TS g W cs (ex Γ cs (.for_ tg src ba))) := by
  have C0 := C.C
  refine PS_imp (L2.ps_for C.po C0.calm hi (pg_ok (fnc := fun _ => true) C0.hN C0.nd C0.calm (fun x _ => C.fnT x) tg t (by rw [C0.hsc]; exact ht)) (PSs_any hb) (hn _)) fun D σ H q => ?_
  obtain ⟨G, s, F, R, p⟩ := q
  have p : PostS g W cs σ G H (Own F) D ((srcs Γ src s).bind fun p s1 =>
      unlockR p.2 (forL (fun x st => (asgF (lockCs p.2 cs) tg x st).bind fun _ st' => exs Γ (lockCs p.2 cs) ba st') p.1 (lockO p.2 s1))) := p
  refine S_bind0 (f := srcs Γ src) poor_S R p fun J H1 G1 s1 F1 w t1 R1 hsrc p => ?_
  obtain ⟨its, lk⟩ := w
  obtain ⟨Fk, Pr, L⟩ := lock_of R1 hsrc
  let cs' := lockCs lk cs
  let turn : PV → S → Res Fl := fun x st => (asgF cs' tg x st).bind fun _ st' => exs Γ cs' ba st'
  have p : PostS g W cs σ G1 H1 (Own F1) D (unlockR lk (forL turn its (lockO lk s1))) := p
  have csub : ∀ j, j ∈ cs → j ∈ cs' := fun j hj => by
    show j ∈ lockCs lk cs
    cases lk with
    | none => exact hj
    | some q => exact List.mem_cons_of_mem _ hj
  have lkin : ∀ i ov, lk = some (i, ov) → i ∈ cs' := fun i ov e => by
    show i ∈ lockCs lk cs
    rw [e]; exact List.mem_cons_self
  -- the end, however it comes
  have fin : ∀ {G' H' : Hp} {σ' : L2.St} {F' : Nat → Fp} {s' : S} {A' : Fp}, Stp G1 H1 (Own Fk) G' H' A' → (∀ a, Own F' a → A' a) → RS g G' H' s' σ' F' → Keep cs' σ σ' →
      ∃ F'', RS g G' H' (unlock lk s') σ' F'' ∧ (∀ a, Own F'' a → Own F' a ∨ Pr a) := by
    intro G' H' σ' F' s' A' t sub R' kp
    refine unlock_of L R' t sub fun i ov e => ⟨?_, kp.2 i (lkin i ov e)⟩
    obtain ⟨h1, _⟩ := L.at_ i ov e
    rw [R'.len, kp.1, ← R1.len]; exact h1
  have up : ∀ {G' H' : Hp} {F' F'' : Nat → Fp}, Stp G1 H1 (Own Fk) G' H' (Own F') → (∀ a, Own F'' a → Own F' a ∨ Pr a) → Stp G1 H1 (Own F1) G' H' (Own F'') := fun t h => (t.sup L.sub).sub' fun a z => (h a z).imp id fun z => (L.pr a z).1
  have weak : ∀ {σ'}, Keep cs' σ σ' → Keep cs σ σ' := fun q => ⟨q.1, fun j hj => q.2 j (csub j hj)⟩
  refine ⟨fun i m σ' H' => m = its.length - i ∧ i ≤ its.length ∧ ∃ G' s' F', RS g G' H' s' σ' F' ∧ Stp G1 H1 (Own Fk) G' H' (Own F') ∧ Keep cs' σ σ' ∧ PostS g W cs σ G1 H1 (Own F1) D (unlockR lk (forL turn (its.drop i) s')), ⟨its.length, by simp, Nat.zero_le _, G1, lockO lk s1, Fk, L.rs, Stp.refl, Keep.refl, by rw [List.drop_zero]; exact p⟩, ?_⟩
  rintro i m σ' H' ⟨rfl, hle, Gx, sx, Fx, Rx, tx, kx, px⟩
  have keepPr : ∀ a o, Pr a → H1 a = some o → H' a = some o := fun a o pa e => tx.keep a o e (L.pr a pa).2.1
  by_cases hlt : i < its.length
  · refine .inr ⟨L.src.go Gx H' Rx.sub tx.g keepPr i hlt, fun σ2 H2 => ∃ G' s' F', RS g G' H2 s' σ2 F' ∧ Stp G1 H1 (Own Fk) G' H2 (Own F') ∧ Keep cs' σ σ2 ∧ PostS g W cs σ G1 H1 (Own F1) D (unlockR lk (forL turn (its.drop (i + 1)) s')), fun σ2 H2 h => ⟨its.length - (i + 1), by omega, rfl, hlt, h⟩, fun z H2 y => ?_⟩
    have hxi : its[i]? = some its[i] := List.getElem?_eq_getElem hlt
    obtain ⟨G2, m2, t2, r2⟩ := L.src.yld Gx H' Rx.sub tx.g keepPr i z H2 y _ hxi
    have R2 : RS g G2 H2 sx σ' Fx := Rx.stp t2 (fun _ _ z => z) m2
    have t2' : Stp Gx H' (Own Fx) G2 H2 (Own Fx) := (t2.sup (A := Own Fx) fun _ z => z.elim).sub' fun _ z => .inr z
    have tx2 := tx.trans t2'
    rw [List.drop_eq_getElem_cons hlt] at px
    have px : PostS g W cs σ G1 H1 (Own F1) D (unlockR lk ((((if tg.slots.all (fun i => !cs'.contains i) = true then (asgR tg its[i] sx).bind fun _ s' => (.ok .nx s' : Res Fl) else .bad)).bind fun _ st' => exs Γ cs' ba st').bind fun f s' => match f with
      | .nx => forL turn (its.drop (i + 1)) s'
      | .ct => forL turn (its.drop (i + 1)) s'
      | .bk => .ok .nx s'
      | .rt o => .ok (.rt o) s')) := px
    cases hc : tg.slots.all (fun i => !cs'.contains i) with
    | false => rw [hc] at px; exact (show False from px).elim
    | true =>
      rw [hc, if_pos rfl] at px
      cases ha : asg tg its[i] sx with
      | none =>
        have e : asgR tg its[i] sx = .bad := by unfold asgR; rw [ha]
        rw [e] at px; exact (show False from px).elim
      | some s2 =>
        have e : asgR tg its[i] sx = .ok () s2 := by unfold asgR; rw [ha]
        rw [e] at px
        refine asg_of C0.hK tg its[i] z sx s2 σ' Fx _ R2 r2 ha fun σ2 F2 R3 l2 n2 o2 => ?_
        have k2 : Keep cs' σ' σ2 := ⟨l2, fun j hj => n2 j fun z => by
          have := List.all_eq_true.mp hc j z
          simp at this
          exact this hj⟩
        have tx3 : Stp G1 H1 (Own Fk) G2 H2 (Own F2) := tx2.sub fun a z => o2 a z
        have kx3 := kx.trans k2
        have px : PostS g W cs σ G1 H1 (Own F1) D (unlockR lk ((exs Γ cs' ba s2).bind fun f s' => match f with
          | .nx => forL turn (its.drop (i + 1)) s'
          | .ct => forL turn (its.drop (i + 1)) s'
          | .bk => .ok .nx s'
          | .rt o => .ok (.rt o) s')) := px
        refine ⟨cs', G2, s2, F2, R3, ?_⟩
        cases hx : exs Γ cs' ba s2 with
        | bad => rw [hx] at px; exact px
        | exc e s3 =>
          rw [hx] at px
          intro G' H3 σ3 F3 d k3 t3 R' xr
          obtain ⟨F4, R4, o4⟩ := fin (tx3.trans t3) (fun _ z => z) R' (kx3.trans k3)
          exact px G' H3 σ3 F4 d (weak (kx3.trans k3)) (up (tx3.trans t3) o4) R4 xr
        | ok f s3 =>
          rw [hx] at px
          cases f with
          | nx => exact fun G' H3 σ3 F3 k3 t3 R' => ⟨G', s3, F3, R', tx3.trans t3, kx3.trans k3, px⟩
          | ct => exact fun G' H3 σ3 F3 k3 t3 R' => ⟨G', s3, F3, R', tx3.trans t3, kx3.trans k3, px⟩
          | bk =>
            intro G' H3 σ3 F3 k3 t3 R'
            obtain ⟨F4, R4, o4⟩ := fin (tx3.trans t3) (fun _ z => z) R' (kx3.trans k3)
            exact px G' H3 σ3 F4 (weak (kx3.trans k3)) (up (tx3.trans t3) o4) R4
          | rt o =>
            intro G' H3 σ3 F3 P3 v k3 t3 R' d3 q3
            have t4 := tx3.trans t3
            obtain ⟨F4, R4, o4⟩ := fin t4 (fun _ z => .inr z) R' (kx3.trans k3)
            refine px G' H3 σ3 F4 P3 v (weak (kx3.trans k3)) ((t4.sup L.sub).sub' fun a z => ?_) R4 (fun c pc => ⟨(d3 c pc).1, fun z => ?_⟩) q3
            · rcases z with z | z
              · exact .inl (.inl z)
              · exact (o4 a z).elim (fun z => .inl (.inr z)) fun z => .inr (L.pr a z).1
            · rcases o4 c z with z | z
              · exact (d3 c pc).2 z
              · rcases t4.fnew c (.inl pc) with q | q
                · exact (L.pr c z).2.1 q
                · obtain ⟨u, hu⟩ := (L.pr c z).2.2.2
                  rw [hu] at q; cases q
  · have e : i = its.length := by omega
    subst e
    refine .inl ⟨L.src.stop Gx H' Rx.sub tx.g keepPr, ?_⟩
    rw [List.drop_length] at px
    obtain ⟨F4, R4, o4⟩ := fin tx (fun _ z => z) Rx kx
    exact px Gx H' σ' F4 (weak kx) (up tx o4) R4
/-! ### match -/
theorem capNames_ok : ∀ {ps : List Pattern} {xs : List Str}, capNames ps = some xs → ps.length = xs.length ∧ ps.findIdx? (·.isStar) = none ∧ (ps ≠ [] → (ps.all fun p => p.isWildcard || (p.isStar && p.names.isEmpty)) = false) ∧
    ∀ {M : Model} {A : Around} {E : Value → Shared → Prop} {s : Shared} {env : PySem.Env} {vs : List Value} {Q : Option (List (Str × Value)) → Shared → Prop}, vs.length = xs.length → Q (some (xs.zip vs)) s → wpAny M A (matchEach ps env vs) Q E s
  | [], xs, h => by
    cases h
    exact ⟨rfl, rfl, fun z => absurd rfl z, fun {M A E s env vs Q} _ q => by
      rw [List.zip_nil_left] at q
      exact wpAny_matchEach_nil q⟩
  | p :: ps, xs, h => by
    cases p with
    | MatchAs q nm pos =>
      cases q with
      | some q => cases h
      | none =>
        cases nm with
        | none => cases h
        | some x =>
          have h : (capNames ps).map (x :: ·) = some xs := h
          cases hr : capNames ps with
          | none => rw [hr] at h; cases h
          | some ys =>
            rw [hr] at h; cases h
            obtain ⟨h1, h2, h3, h4⟩ := capNames_ok hr
            refine ⟨by simp [h1], ?_, fun _ => rfl, fun {M A E s env vs Q} hl q => ?_⟩
            · rw [List.findIdx?_cons, h2]; rfl
            · cases vs with
              | nil => cases hl
              | cons v vs =>
                refine wpAny_matchEach_cons (wpAny_matchPattern_Capture ?_) rfl
                exact h4 (Nat.succ.inj hl) q
    | _ => cases h
/-- the names of a case are stored -/
theorem bind_all (C : CxF g gn Γ N k sc W X) : ∀ (is : List Nat) (names : List Str) (vs : List PV) (zs : List V) (us : List Value) (s0 : S) (σ : L2.St) (F : Nat → Fp) (pins : List (Addr × Obj)) (s : Shared) (Q : Unit → Shared → Prop), nmsOk N sc is names = true → RS g G H s0 σ F → Reps g G vs zs → L2.Vals zs us → vs.length = is.length →
    (∀ i, i ∈ is → i < s0.length ∧ i ∉ cs) → L2.Inv X pins σ H s →
    (∀ σ' F' s', Keep cs σ σ' → RS g G H (bindAll is vs s0) σ' F' → (∀ a, Own F' a → Own F a) → L2.Inv X pins σ' H s' → Q () s') →
    wpAny (model X.prog X.w) X.A (assignInOrder ((names.zip us).map fun (n, _) => bindName X.env n) ((names.zip us).map (·.2))) Q X.xe s
  | [], names, vs, zs, us, s0, σ, F, pins, s, Q, hn, R, r, rv, hl, hb, I, q => by
    cases names with
    | cons _ _ => exact ff hn
    | nil => exact assignInOrder_nil (q σ F s Keep.refl R (fun _ z => z) I)
  | i :: is, names, vs, zs, us, s0, σ, F, pins, s, Q, hn, R, r, rv, hl, hb, I, q => by
    cases names with
    | nil => exact ff hn
    | cons x names =>
      cases vs with
      | nil => cases hl
      | cons v vs =>
        obtain ⟨z, zr, rfl, r1, r2⟩ := r
        cases rv with
        | cons rv1 rv2 =>
          have hn : (isNm N i x && locB sc (fun _ => true) x && nmsOk N sc is names) = true := hn
          rw [Bool.and_eq_true, Bool.and_eq_true] at hn
          obtain ⟨hi, hc⟩ := hb i List.mem_cons_self
          obtain ⟨R2, o2⟩ := put_slot (o := .sh v) (P := none_) R (fun _ z => z.elim) ⟨fun _ z => z, z, rfl, r1⟩ hi
          refine assignInOrder_cons (wpAny_bindName (L2.store_ok I C.C.nd (by rw [C.C.hN]; exact isNm_ok hn.1.1) (by rw [C.C.hsc]; exact (locB_ok hn.1.2).1) rv1 (fun s1 I1 => ?_) (.inl (C.fnT x))))
          refine bind_all C is names vs zr _ (s0.set i (.sh v)) _ _ pins s1 Q hn.2 R2 r2 rv2 (Nat.succ.inj hl) (fun j hj => ?_) I1 fun σ' F' s' kp R' o' I' => q σ' F' s' ((Keep.set hc).trans kp) R' (fun a z => (o2 a (o' a z)).elim (fun z => z.elim) id) I'
          obtain ⟨k1, k2⟩ := hb j (List.mem_cons_of_mem _ hj)
          exact ⟨by rw [List.length_set]; exact k1, k2⟩
/-- the cases, over a value -/
def MC (g : Gm) (W : WX) (X : L2.Cx) (cs : List Nat) (l : List MatchCase) (f : PV → S → Res Fl) : Prop :=
  ∀ (pins : List (Addr × Obj)) (s : Shared) (σ : L2.St) (G H : Hp) (D : Ends) (s0 : S) (F : Nat → Fp) (w : PV) (z : V) (u : Value) (first : Bool), L2.Inv X pins σ H s → L2.RelV z u → RS g G H s0 σ F → Rep g G w z → PostS g W cs σ G H (Own F) D (f w s0) →
    wpAny (model X.prog X.w) X.A (matchCases l X.env u first) (L2.SP X pins D) X.xe s
theorem m_all {pos : Pos} (hb : PSs X xs (TS g W cs (exs Γ cs ba))) : MC g W X cs [⟨.MatchAs none none pos, none, xs⟩] (fun v => exm Γ cs v (.all ba)) := by
  intro pins s σ G H D s0 F w z u first I rv R r p
  refine wpAny_matchCases_cons (wpAny_matchPattern_Capture ?_)
  exact assignInOrder_nil (hb.run pins s σ H D I ⟨G, s0, F, R, p⟩)
theorem m_seq (C : CxF g gn Γ N k sc W X) {ps : List Pattern} {pos : Pos} {is : List Nat} {names : List Str} {rest : Cases} {l : List MatchCase} (hp : capNames ps = some names) (hne : is ≠ []) (hn : nmsOk N sc is names = true) (hc : PT X t (T g W RlB (te Γ c)))
    (hb : PSs X xs (TS g W cs (exs Γ cs ba))) (hr : MC g W X cs l (fun v => exm Γ cs v rest)) : MC g W X cs (⟨.MatchSequence ps pos, some t, xs⟩ :: l) (fun v => exm Γ cs v (.seq is c ba rest)) := by
  intro pins s σ G H D s0 F w z u first I rv R r p
  obtain ⟨h1, h2, h3, h4⟩ := capNames_ok hp
  have hlen : ∀ {is : List Nat} {names : List Str}, nmsOk N sc is names = true → names.length = is.length := by
    intro is
    induction is with
    | nil => intro names h; cases names with
      | nil => rfl
      | cons _ _ => exact ff h
    | cons i is ih =>
      intro names h
      cases names with
      | nil => exact ff h
      | cons x names =>
        have h : (isNm N i x && locB sc (fun _ => true) x && nmsOk N sc is names) = true := h
        rw [Bool.and_eq_true] at h
        simp [ih h.2]
  have hln := hlen hn
  have hpne : ps ≠ [] := fun e => by
    rw [e] at h1
    have h1 : 0 = names.length := h1
    rw [hln] at h1
    exact hne (List.eq_nil_of_length_eq_zero h1.symm)
  cases w with
  | tup vs =>
    have p : PostS g W cs σ G H (Own F) D (if vs.length = is.length then
        (if is.all (fun i => decide (i < s0.length) && !cs.contains i) then (te Γ c (bindAll is vs s0)).bind fun k s' => if k then exs Γ cs ba s' else exm Γ cs (.tup vs) rest s' else .bad)
      else exm Γ cs (.tup vs) rest s0) := p
    have r0 := r
    obtain ⟨a, zs, rfl, hq, rs⟩ := r
    have rv0 := rv
    cases rv
    obtain ⟨its, rvs, ht, hz⟩ := I.tuple (by rw [C.C.hK]; exact sqT_mono R.sub hq)
    have hlz := rvs.length
    have hlv := rs.length
    have hfit : ((its.toArray.size : Nat) : Int) < 2 ^ 63 := by
      have := L2.line63
      rw [List.size_toArray]; omega
    have I2 : ∀ {n : Nat}, L2.Inv X pins σ H { s with toks := n } := fun {n} => I.tok n
    by_cases hv : vs.length = is.length
    · rw [if_pos hv] at p
      have hs : its.toArray.size = ps.length := by rw [List.size_toArray]; omega
      cases hall : is.all (fun i => decide (i < s0.length) && !cs.contains i) with
      | false => rw [hall] at p; exact (show False from p).elim
      | true =>
        rw [hall, if_pos rfl] at p
        refine wpAny_matchCases_cons (matchSeq_tuple_hit ht hfit hs ?_ h2 (h3 hpne))
        rw [← hs]
        refine unpackItems_tuple (I.ok.hd C.C.calm) (show IsTup ({ s with toks := s.toks + 1 + 1 } : Shared).heap a its.toArray from ht) fun h' hx => ?_
        have I3 : L2.Inv X pins σ H { s with heap := h', toks := s.toks + 1 + 1 } := (I.tok (s.toks + 1 + 1)).kept (h' := h') (t' := s.toks + 1 + 1) fun b o e => hx b o (Nat.ne_of_lt (Heap.lt_size e)) e
        refine h4 (by simp; omega) ?_
        have e0 : its.toArray.toList = its := by simp
        rw [e0]
        refine bind_all (cs := cs) C is names vs zs its s0 σ F pins _ _ hn R rs rvs hv (fun i hi => ?_) I3 fun σ' F' s' kp R' o' I' => ?_
        · have := List.all_eq_true.mp hall i hi
          simp at this
          exact this
        · have p2 : PostS g W cs σ' G H (Own F') D ((te Γ c (bindAll is vs s0)).bind fun k s' => if k then exs Γ cs ba s' else exm Γ cs (.tup vs) rest s') := PostS.stp kp (Stp.refl.sub fun a z => o' a z) p
          refine L2.thn (hc.run pins s' σ' H _ I' (S_bind0 (f := te Γ c) (Q2 := fun d H1 => ∃ G1 s1 F1, Same G G1 ∧ RS g G1 H1 s1 σ' F1 ∧ PostS g W cs σ' G1 H1 (Own F1) D (if d = true then exs Γ cs ba s1 else exm Γ cs (.tup vs) rest s1)) poor_B R' p2 fun d H1 G1 s1 F1 w t1 R1 hw p => ?_)) fun d s2 ⟨H1, I1, q1⟩ => ?_
          · have e := hw.2
            subst e
            exact ⟨G1, s1, F1, t1.g, R1, p⟩
          · obtain ⟨G1, s1, F1, m1, R1, p⟩ := q1
            cases d with
            | true => exact hb.run pins s2 σ' H1 D I1 ⟨G1, s1, F1, R1, p⟩
            | false => exact hr pins s2 σ' G1 H1 D s1 F1 (.tup vs) (.ref a) (.ref a) false I1 rfl R1 (Rep.mono m1 _ _ r0) p
    · rw [if_neg hv] at p
      have hs : its.toArray.size ≠ ps.length := by rw [List.size_toArray]; omega
      refine wpAny_matchCases_cons (matchSeq_tuple_miss ht hfit hs ?_ h2 (h3 hpne))
      exact hr pins _ σ G H D s0 F (.tup vs) (.ref a) (.ref a) false (I.tok _) rfl R r0 p
  | _ => exact (show False from p).elim
theorem s_match {rest : Cases} {l : List MatchCase} (hx : PE X x (T g W (RlO g) (ev Γ a))) (hr : MC g W X cs l (fun v => exm Γ cs v rest)) : PS X (.Match x l p) (TS g W cs (ex Γ cs (.mtch a rest))) := by
  refine ⟨fun pins s σ H D I q => ?_⟩
  obtain ⟨G, s0, F, R, p⟩ := q
  have p : PostS g W cs σ G H (Own F) D ((frzR (ev Γ a s0)).bind fun v s' => exm Γ cs v rest s') := p
  refine wpAny_Match (L2.thn ((PE_frz hx).run pins s σ H _ I (S_bind0 (f := fun s => frzR (ev Γ a s)) (Q2 := fun z H1 => ∃ G1 s1 F1 w, RS g G1 H1 s1 σ F1 ∧ Rep g G1 w z ∧ PostS g W cs σ G1 H1 (Own F1) D (exm Γ cs w rest s1)) poor_V R p fun z H1 G1 s1 F1 w t1 R1 hw p => ⟨G1, s1, F1, w, R1, hw.2, p⟩)) fun u s1 ⟨z, H1, I1, r1, q1⟩ => ?_)
  obtain ⟨G1, s2, F1, w, R1, hw, p⟩ := q1
  exact hr pins s1 σ G1 H1 D s2 F1 w z u true I1 r1 R1 hw p
theorem b_nl : PSs X [] (TS g W cs (exs Γ cs .nil)) := PSs_imp L2.pss_nil fun D σ H q => by
  obtain ⟨G, s, F, R, p⟩ := q
  exact nx_here R p
theorem b_cs {st : Stmt} {s1 : St} (h1 : PS X st (TS g W cs (ex Γ cs s1))) (h2 : PSs X xs (TS g W cs (exs Γ cs ba))) : PSs X (st :: xs) (TS g W cs (exs Γ cs (.cons s1 ba))) := by
  refine PSs_imp (L2.pss_cons h1 h2) fun D σ H q => ?_
  obtain ⟨G, s, F, R, p⟩ := q
  have p : PostS g W cs σ G H (Own F) D ((ex Γ cs s1 s).bind fun f s' => match f with
    | .nx => exs Γ cs ba s'
    | f => .ok f s') := p
  refine ⟨G, s, F, R, ?_⟩
  cases hx : ex Γ cs s1 s with
  | bad => rw [hx] at p; exact p
  | exc e s2 => rw [hx] at p; exact p
  | ok f s2 =>
    rw [hx] at p
    cases f with
    | nx => exact fun G' H' σ' F' z t R' => ⟨G', s2, F', R', PostS.stp z t p⟩
    | ct => exact p
    | bk => exact p
    | rt o => exact p
end
section
variable {g : Gm} {gn : GN} {Γ : Env} {N : List Tx} {k : Nat} {sc : Scope}
mutual
theorem st_ok : ∀ (m : St) {W : WX} {X : L2.Cx} {st : Stmt} (cs : List Nat), CxF g gn Γ N k sc W X → chkSt gn N sc m st = true → PS X st (TS g W cs (ex Γ cs m))
  | .expr e, W, X, st, cs, C, h => by
    cases st <;> first | exact ff h | skip
    rename_i x p
    have h : (!isComp x && chk gn N sc e x) = true := h
    rw [Bool.and_eq_true, Bool.not_eq_true'] at h
    exact s_expr h.1 (ev_ok e C.C h.2)
  | .app i e, W, X, st, cs, C, h => by
    cases st <;> first | exact ff h | skip
    rename_i x p
    cases x <;> first | exact ff h | skip
    rename_i f l ks cp
    cases f <;> first | exact ff h | skip
    rename_i o at_ ap
    cases o <;> first | exact ff h | skip
    rename_i x px
    rcases l with _ | ⟨y, _ | ⟨y2, l⟩⟩ <;> first | exact ff h | skip
    cases ks <;> first | exact ff h | skip
    have h : (decide (at_ = ("append" : Str)) && (ap.endLine == cp.line) && chk gn N sc (.var i) (.Name x px) && chk gn N sc e y) = true := h
    simp only [Bool.and_eq_true, decide_eq_true_eq] at h
    obtain ⟨⟨⟨h1, h2⟩, h3⟩, h4⟩ := h
    subst h1
    exact s_app C h2 h3 h4 (ev_ok e C.C h4)
  | .set t e, W, X, st, cs, C, h => by
    cases st <;> first | exact ff h | skip
    rename_i l y p
    rcases l with _ | ⟨tg, _ | ⟨t2, l⟩⟩ <;> first | exact ff h | skip
    have h : (notSw sc tg y && lone y && chkT N sc (fun _ => true) t tg && chk gn N sc e y) = true := h
    simp only [Bool.and_eq_true] at h
    exact s_set C h.1.1.1 h.1.1.2 h.1.2 h.2
  | .par2 i j a b, W, X, st, cs, C, h => by
    unfold chkSt at h
    split at h
    · simp only [Bool.and_eq_true, decide_eq_true_eq] at h
      obtain ⟨⟨⟨⟨⟨⟨⟨h1, h2⟩, h3⟩, h4⟩, h5⟩, h6⟩, h7⟩, h8⟩ := h
      exact s_par2 C h1 h2 h3 h4 h5 h6 h7 h8
    · exact ff h
  | .par3 i j m a b c, W, X, st, cs, C, h => by
    unfold chkSt at h
    split at h
    · simp only [Bool.and_eq_true, decide_eq_true_eq] at h
      obtain ⟨⟨⟨⟨⟨⟨⟨⟨⟨⟨⟨⟨h1, h2⟩, h3⟩, h4⟩, h5⟩, h6⟩, h7⟩, h8⟩, h9⟩, h10⟩, h11⟩, h12⟩, h13⟩ := h
      exact s_par3 C h1 h2 h3 h4 h5 h6 h7 h8 h9 h10 h11 h12 h13
    · exact ff h
  | .setIx i b e, W, X, st, cs, C, h => by
    cases st <;> first | exact ff h | skip
    rename_i l y p
    rcases l with _ | ⟨tg, _ | ⟨t2, l⟩⟩ <;> first | exact ff h | (cases tg <;> exact ff h) | skip
    cases tg <;> first | exact ff h | skip
    rename_i x s p2
    have h : (notSub s && !isComp y && chk gn N sc (.var i) x && chk gn N sc b s && chk gn N sc e y) = true := h
    simp only [Bool.and_eq_true, Bool.not_eq_true'] at h
    obtain ⟨⟨⟨⟨h1, h2⟩, h3⟩, h4⟩, h5⟩ := h
    exact s_setIx C h1 h2 h3 (ev_ok b C.C h4) (ev_ok e C.C h5)
  | .aug i o e, W, X, st, cs, C, h => by
    cases st <;> first | exact ff h | skip
    rename_i t op y p
    have h : (opB o op && isNmL N sc i t && chk gn N sc e y) = true := h
    simp only [Bool.and_eq_true] at h
    exact s_aug C h.1.1 h.1.2 (ev_ok e C.C h.2)
  | .augIx i b o e, W, X, st, cs, C, h => by
    cases st <;> first | exact ff h | skip
    rename_i t op y p
    cases t <;> first | exact ff h | skip
    rename_i x s p2
    have h : (opB o op && notSub s && chk gn N sc (.var i) x && chk gn N sc b s && chk gn N sc e y) = true := h
    simp only [Bool.and_eq_true] at h
    obtain ⟨⟨⟨⟨h1, h2⟩, h3⟩, h4⟩, h5⟩ := h
    exact s_augIx C h1 h2 h3 (ev_ok b C.C h4) (ev_ok e C.C h5)
  | .ret e, W, X, st, cs, C, h => by
    cases st <;> first | exact ff h | skip
    rename_i o p
    cases o <;> first | exact ff h | skip
    exact s_ret (ev_ok e C.C h)
  | .retN, W, X, st, cs, C, h => by
    cases st <;> first | exact ff h | skip
    rename_i o p
    cases o <;> first | exact ff h | skip
    exact s_retN
  | .pass, W, X, st, cs, C, h => by
    cases st <;> first | exact ff h | skip
    exact s_pass
  | .brk, W, X, st, cs, C, h => by
    cases st <;> first | exact ff h | skip
    exact s_brk
  | .cont, W, X, st, cs, C, h => by
    cases st <;> first | exact ff h | skip
    exact s_cont
  | .ifs c a b, W, X, st, cs, C, h => by
    cases st <;> first | exact ff h | skip
    rename_i t x y p
    have h : (chk gn N sc c t && chkSts gn N sc a x && chkSts gn N sc b y) = true := h
    simp only [Bool.and_eq_true] at h
    exact s_if (te_ok c C.C h.1.1) (sts_ok a cs C h.1.2) (sts_ok b cs C h.2)
  | .for_ tg src b, W, X, st, cs, C, h => by
    cases st <;> first | exact ff h | skip
    rename_i t it x oe p
    cases oe <;> first | exact ff h | skip
    have h : (chkT N sc (fun _ => true) tg t && chkS gn N sc src it t && chkSts gn N sc b x) = true := h
    simp only [Bool.and_eq_true] at h
    exact s_for C h.1.1 (chkS_noset h.1.2) (srcs_ok src C.C h.1.2) fun cs => sts_ok b cs C h.2
  | .while_ c b, W, X, st, cs, C, h => by
    cases st <;> first | exact ff h | skip
    rename_i t x oe p
    cases oe <;> first | exact ff h | skip
    have h : (chk gn N sc c t && chkSts gn N sc b x) = true := h
    simp only [Bool.and_eq_true] at h
    exact s_while C (te_ok c C.C h.1) (sts_ok b cs C h.2)
  | .raise c es, W, X, st, cs, C, h => by
    unfold chkSt at h
    split at h
    · simp only [Bool.and_eq_true, Bool.not_eq_true'] at h
      obtain ⟨⟨⟨⟨⟨h1, h2⟩, h3⟩, h4⟩, h5⟩, h6⟩ := h
      exact s_raise C h1 h2 h3 h4 h5 h6 (evs_ok es C.C h6)
    · exact ff h
  | .setFld c i j e, W, X, st, cs, C, h => by
    unfold chkSt at h
    split at h
    · simp only [Bool.and_eq_true, Bool.not_eq_true'] at h
      obtain ⟨⟨⟨⟨⟨h1, h2⟩, h3⟩, h4⟩, h5⟩, h6⟩ := h
      exact s_setFld C h1 h2 h3 h4 h6 (ev_ok e C.C h6)
    · exact ff h
  | .tryx b hs, W, X, st, cs, C, h => by
    unfold chkSt at h
    split at h
    · simp only [Bool.and_eq_true, Bool.not_eq_true'] at h
      obtain ⟨⟨h1, h2⟩, h3⟩ := h
      exact s_try C h1 (fun C' => sts_ok b cs C' h2) h3
    · exact ff h
  | .mtch e r, W, X, st, cs, C, h => by
    cases st <;> first | exact ff h | skip
    rename_i x l p
    have h : (chk gn N sc e x && chkCs gn N sc r l) = true := h
    simp only [Bool.and_eq_true] at h
    exact s_match (ev_ok e C.C h.1) (cs_ok r cs C h.2)
  | .never, W, X, st, cs, C, h => PS_no fun D σ H ⟨_, _, _, _, p⟩ => p
theorem sts_ok : ∀ (m : Sts) {W : WX} {X : L2.Cx} {l : List Stmt} (cs : List Nat), CxF g gn Γ N k sc W X → chkSts gn N sc m l = true → PSs X l (TS g W cs (exs Γ cs m))
  | .nil, W, X, l, cs, C, h => by
    cases l with
    | nil => exact b_nl
    | cons x l => exact ff h
  | .cons a r, W, X, l, cs, C, h => by
    cases l with
    | nil => exact ff h
    | cons x l =>
      have h : (chkSt gn N sc a x && chkSts gn N sc r l) = true := h
      rw [Bool.and_eq_true] at h
      exact b_cs (st_ok a cs C h.1) (sts_ok r cs C h.2)
theorem cs_ok : ∀ (m : Cases) {W : WX} {X : L2.Cx} {l : List MatchCase} (cs : List Nat), CxF g gn Γ N k sc W X → chkCs gn N sc m l = true → MC g W X cs l (fun v => exm Γ cs v m)
  | .all b, W, X, l, cs, C, h => by
    rcases l with _ | ⟨⟨pt, gd, x⟩, _ | ⟨y, l⟩⟩ <;> first | exact ff h | skip
    · cases pt <;> first | exact ff h | skip
      rename_i q nm pos
      cases q <;> cases nm <;> cases gd <;> first | exact ff h | skip
      exact m_all (sts_ok b cs C h)
    · cases pt <;> first | exact ff h | skip
      rename_i q nm pos
      cases q <;> cases nm <;> cases gd <;> exact ff h
  | .seq is c b r, W, X, l, cs, C, h => by
    rcases l with _ | ⟨⟨pt, gd, x⟩, l⟩ <;> first | exact ff h | skip
    cases pt <;> first | exact ff h | skip
    rename_i ps pos
    cases gd <;> first | exact ff h | skip
    rename_i t
    have h : ((match capNames ps with
      | some xs => !is.isEmpty && decide (is.Nodup) && nmsOk N sc is xs
      | none => false) && chk gn N sc c t && chkSts gn N sc b x && chkCs gn N sc r l) = true := h
    simp only [Bool.and_eq_true] at h
    obtain ⟨⟨⟨h1, h2⟩, h3⟩, h4⟩ := h
    cases hp : capNames ps with
    | none => rw [hp] at h1; exact ff h1
    | some xs =>
      rw [hp] at h1
      simp only [Bool.and_eq_true, Bool.not_eq_true'] at h1
      have hne : is ≠ [] := fun e => by rw [e] at h1; exact absurd h1.1.1 (by simp)
      exact m_seq C hp hne h1.2 (te_ok c C.C h2) (sts_ok b cs C h3) (cs_ok r cs C h4)
end
end
end PF
set_option Elab.async false
set_option linter.all false
set_option maxRecDepth 100000
set_option maxHeartbeats 2000000
/-! PF, part q: every def. -/
namespace PF
open PySem PySem.Spec PyProof.Rows
open L2 (V Hp HO upd upd_same upd_ne Same SqL SqT WX PE PT PA PC PS PSs OpR CallR IxR SlR MtR TruR VK Ends)
/-- a def: its name (a method's, too), its qualified name, its text, what the own text says; how it is had; the numbers of defaults that calls fill up -/
structure Dn where
  nm : Tx
  qual : Tx
  st : Stmt
  fn : Fn
  cl : Option (Nat × MK) := none
  dn : List Nat := [0]
  on : Bool := true
/-- a class: its name, its fields -/
structure Cn where
  nm : Tx
  flds : List Tx
/-- an exception class: its name, its __init__'s parameters (none: it has no own), that def, its builtin base -/
structure Xn where
  nm : Tx
  fs : List Tx
  st : Stmt
  base : Nat
structure Md where
  P : List Dn
  C : List Cn
  X : List Xn
  sub : List (Nat × Nat × Bool)
  gl : List (Tx × PV)
def argNames (a : Arguments) : Option (List Str) := match a with
  | ⟨[], l, none, [], [], none, _⟩ => some (l.map (·.arg))
  | _ => none
def defOk (gn : GN) (d : Dn) : Bool :=
  (match (L2.defScope d.st).kind with | .function => true | _ => false) && !(L2.defScope d.st).isCoroutine && !(L2.defScope d.st).isGenerator && decide (d.fn.nm.map mkS).Nodup &&
    decide (argNames (L2.defArgs d.st) = some ((d.fn.nm.map mkS).take d.fn.np)) && decide (d.fn.np ≤ d.fn.nm.length) && decide (d.fn.np ≤ 9) &&
    ((d.fn.nm.map mkS).take d.fn.np).all (fun x => locB (L2.defScope d.st) (fun _ => true) x) && (L2.defScope d.st).names.all (fun y => !(y.2 == .free)) && chkSts gn d.fn.nm (L2.defScope d.st) d.fn.body (L2.defBody d.st)
def gnOf (M : Md) : GN where
  glb := fun i => (M.gl[i]?).bind fun q => if q.1.isEmpty then none else some q.1
  fn := fun i => (M.P[i]?).bind fun d => if d.on && d.cl.isNone && d.dn.contains 0 then some d.nm else none
  cls := fun c => (M.C[c]?).bind fun x => if x.nm.isEmpty then none else some x.nm
  fld := fun c k => (M.C[c]?).bind fun d => d.flds[k]?
  mth := fun i => (M.P[i]?).bind fun d => if d.on then d.cl.map fun q => (q.1, d.nm, q.2) else none
  dfl := fun i n => match M.P[i]? with
    | some d => d.on && d.dn.contains n
    | none => false
  exc := fun c => (M.X[c]?).bind fun x => if x.nm.isEmpty then none else some x.nm
  xfl := fun c k => (M.X[c]?).bind fun d => d.fs[k]?
def glV (gl : List (Tx × PV)) (i : Nat) : Option PV := (gl[i]?).map (·.2)
def subF (l : List (Nat × Nat × Bool)) (a b : Nat) : Option Bool := (l.find? fun q => q.1 == a && q.2.1 == b).map fun q => q.2.2
def progOf (M : Md) : Prog := M.P.map Dn.fn
def tbOf (M : Md) : Tb := ⟨glV M.gl, subF M.sub⟩
def gamma (M : Md) (d : Nat) : Env := ⟨glV M.gl, fun i => ((progOf M)[i]?).elim [] Fn.cst, fun i => ((progOf M)[i]?).elim [] Fn.dfl, subF M.sub, callD (progOf M) (tbOf M) d⟩
structure Fx (g : Gm) (M : Md) (mg : Str → Option Value) (Pr : Program) : Prop where
  glb : ∀ i t v, (gnOf M).glb i = some t → glV M.gl i = some v → ∃ u x, mg (mkS t) = some u ∧ L2.RelV x u ∧ ∀ G, Rep g G v x
  def_ : ∀ (i : Nat) (d : Dn), M.P[i]? = some d → d.on = true → ∃ fd dvs, L2.FunD g.K (mkS d.nm) (mkS d.qual) (L2.defArgs d.st) (L2.defBody d.st) (L2.defScope d.st) dvs [] (g.fa i) fd ∧ (∀ G, Reps g G d.fn.dfl dvs) ∧ (d.cl = none → mg (mkS d.nm) = some (.ref (g.fa i)))
  cls : ∀ c t, (gnOf M).cls c = some t → mg (mkS t) = some (.ref (g.cl c)) ∧ ∀ v, knV g v → PySem.W.kitOne g.K (typV g v) (.ref (g.cl c)) = some (isTy (.cls c) v)
  ins : ∀ c t, g.kn c → (∀ H a dx fs, H a = some (.ins (g.cl c) dx fs) → L2.TyX g.K H (.ref a) (.ref (g.cl c))) ∧ (t ≠ Ty.cls c → (∀ c', t ≠ .cls c') → PySem.W.kitOne g.K (.ref (g.cl c)) (tyW g t) = some false)
  mgB : ∀ b, mg (biS b) = none
  mgT : ∀ t n, tyS t = some n → mg n = none
  mgR : mg "range" = none ∧ mg "enumerate" = none ∧ mg "zip" = none ∧ mg "isinstance" = none
  fld : ∀ c i t, (gnOf M).fld c i = some t → L2.Cls g.K (g.cl c) ∧ (g.fnm c)[i]? = some (mkS t) ∧ FldOk g.K g c
  mth : ∀ f c t m, (gnOf M).mth f = some (c, t, m) → MthOk g.K g f c (mkS t) m
  exc : ∀ c t, (gnOf M).exc c = some t → mg (mkS t) = some (.ref (g.xcl c))
  xok : ∀ c i t, (gnOf M).xfl c i = some t → XOk g.K Pr (g.xcl c) (g.xfn c) ∧ ∀ j, ((gnOf M).xfl c j).map mkS = (g.xfn c)[j]?
  sub : ∀ c c' b, subF M.sub c c' = some b → PySem.W.exmOne g.K (.ref (g.xcl c)) (.ref (g.xcl c')) = some b
/-- the parameters are bound by place, the last ones by their defaults -/
def BindOk (d : Dn) : Prop :=
  (d.fn.dfl = [] → ∀ (x qual : Str) (body : List Stmt) (scope : Scope) (kV doc pm : Value) (an : Option Addr) (cdv ct : Value) (us : List Value), us.length = d.fn.np →
    bindArgs (PySem.W.fnOf x qual (L2.defArgs d.st) body scope .none kV doc pm an cdv ct) ⟨us, []⟩ = pure (((d.fn.nm.map mkS).take d.fn.np).zip us)) ∧
  (d.fn.dfl ≠ [] → ∀ m, m ∈ d.dn → m ≤ d.fn.dfl.length ∧ d.fn.dfl.length ≤ d.fn.np ∧ ∀ (x qual : Str) (body : List Stmt) (scope : Scope) (T : Addr) (kV doc pm : Value) (an : Option Addr) (cdv ct : Value) (us its : List Value), us.length = d.fn.np - m → its.length = d.fn.dfl.length →
    ∃ k, bindArgs (PySem.W.fnOf x qual (L2.defArgs d.st) body scope (.ref T) kV doc pm an cdv ct) ⟨us, []⟩ = seqItems? (.ref T) >>= k ∧ k (some its.toArray) = pure (((d.fn.nm.map mkS).take d.fn.np).zip (us ++ its.drop (d.fn.dfl.length - m))))
section
variable {g : Gm} {gn : GN} {W : WX} {σ : L2.St} {H G : Hp} {s : S} {F : Nat → Fp}
/-- the names beside the parameters stand empty -/
theorem RS.pad {vs : List V} (R : RS g G H s (vs.map some) F) (m : Nat) : RS g G H (s ++ List.replicate m .emp) (vs.map some ++ List.replicate m none) F where
  len := by simp [R.len]
  at_ := fun i hi => by
    by_cases h : i < s.length
    · have e : getO (s ++ List.replicate m OV.emp) i = getO s i := by
        unfold getO
        simp [List.getD, List.getElem?_append_left h]
      rw [e, List.getElem?_append_left (by rw [← R.len]; exact h)]
      exact R.at_ i h
    · have e : getO (s ++ List.replicate m OV.emp) i = .emp := by
        unfold getO
        rw [List.getD, List.getElem?_append_right (Nat.le_of_not_lt h), List.getElem?_replicate]
        split <;> rfl
      rw [e]
      exact fun a z => h (R.out i a z)
  dis := R.dis
  fr := R.fr
  out := fun i a z => by
    have := R.out i a z
    simp; omega
  sub := R.sub
theorem start_at {N : List Str} {vs : List V} {k : Nat} (h : k < vs.length) : (L2.start N vs)[k]? = (vs.map some)[k]? := by
  unfold L2.start
  rw [List.getElem?_append_left (by simpa using h)]
/-- what the parameters hold behind the body -/
theorem outs_rs {fn : Fn} {N : List Str} {vs : List V} (R : RS g G H s σ F) (hn : vs.length = fn.np) (k : Keep fn.cst (L2.start N vs) σ) :
    RS g G H (outsOf fn s) (vs.map some) (fun i => if i < fn.np ∧ i ∈ fn.cst then F i else none_) := by
  have gt : ∀ i, i < fn.np → getO (outsOf fn s) i = if fn.cst.contains i then getO s i else .emp := fun i hi => by
    unfold outsOf
    unfold getO
    rw [List.getD, List.getElem?_map, List.getElem?_range hi]
    rfl
  refine ⟨by simp [outsOf, hn], fun i hi => ?_, fun i j a p q => ?_, fun i a p => ?_, fun i a p => ?_, R.sub⟩
  · have hi : i < fn.np := by simpa [outsOf] using hi
    rw [gt i hi]
    have hv : i < vs.length := by rw [hn]; exact hi
    by_cases hc : i ∈ fn.cst
    · rw [if_pos (by simpa using hc), if_pos ⟨hi, hc⟩]
      have e := k.2 i hc
      rw [start_at hv] at e
      rw [← e]
      have hj : i < s.length := by
        rw [R.len, k.1]
        unfold L2.start
        simp; omega
      exact R.at_ i hj
    · rw [if_neg (by simpa using hc), if_neg (fun z => hc z.2)]
      exact fun a z => z
  · have p : (if i < fn.np ∧ i ∈ fn.cst then F i else none_) a := p
    have q : (if j < fn.np ∧ j ∈ fn.cst then F j else none_) a := q
    split at p <;> split at q <;> first | exact R.dis i j a p q | exact p.elim | exact q.elim
  · have p : (if i < fn.np ∧ i ∈ fn.cst then F i else none_) a := p
    split at p
    · exact R.fr i a p
    · exact p.elim
  · have p : (if i < fn.np ∧ i ∈ fn.cst then F i else none_) a := p
    split at p
    · rename_i z
      simpa [outsOf] using z.1
    · exact p.elim
theorem outs_own {fn : Fn} {a : Addr} (h : Own (fun i => if i < fn.np ∧ i ∈ fn.cst then F i else none_) a) : Own F a := by
  obtain ⟨i, p⟩ := h
  have p : (if i < fn.np ∧ i ∈ fn.cst then F i else none_) a := p
  split at p
  · exact ⟨i, p⟩
  · exact p.elim
/-- a def's body, from the promise at its call -/
theorem body_start {fn : Fn} {Γ : Env} {N : List Str} {vs : List V} {ovs : List OV} {Q : VK} {E : L2.XK} (hN : N.length = fn.nm.length) (hv : vs.length = fn.np) (R : RS g G H ovs (vs.map some) F)
    (p : Post g (fun cls d _ H' => E cls d H') (vs.map some) G H (Own F) (RlO g) Q (runBody Γ fn ovs)) : TS g (fun cls d _ H' => E cls d H') fn.cst (exs Γ fn.cst fn.body) { nx := fun _ H' => Q .non H', rt := Q } (L2.start N vs) H := by
  have hl : ovs.length = fn.np := by rw [R.len, List.length_map, hv]
  have p : Post g (fun cls d _ H' => E cls d H') (vs.map some) G H (Own F) (RlO g) Q (if ovs.length = fn.np then
    match exs Γ fn.cst fn.body (ovs ++ List.replicate (fn.nm.length - fn.np) .emp) with
    | .ok .nx s => .ok (.sh .non) (outsOf fn s)
    | .ok (.rt o) s => .ok o (outsOf fn s)
    | .exc e s => .exc e (outsOf fn s)
    | _ => .bad
  else .bad) := p
  rw [if_pos hl] at p
  refine ⟨G, ovs ++ List.replicate (fn.nm.length - fn.np) .emp, F, ?_, ?_⟩
  · have e : L2.start N vs = vs.map some ++ List.replicate (fn.nm.length - fn.np) none := by
      unfold L2.start
      rw [hN, hv]
    rw [e]
    exact R.pad _
  · cases hx : exs Γ fn.cst fn.body (ovs ++ List.replicate (fn.nm.length - fn.np) .emp) with
    | bad => rw [hx] at p; exact p
    | exc e s =>
      rw [hx] at p
      exact fun G' H' σ' F' d k t R' xr => p G' H' _ d (t.sub fun a z => outs_own z) (outs_rs R' hv k) xr
    | ok f s =>
      rw [hx] at p
      cases f with
      | nx => exact fun G' H' σ' F' k t R' => p G' H' _ none_ .non (t.sub fun a z => z.elim (fun z => z.elim) outs_own) (outs_rs R' hv k) (fun _ z => z.elim) ⟨fun _ z => z, _, rfl, rfl⟩
      | rt o => exact fun G' H' σ' F' P x k t R' d q => p G' H' _ P x (t.sub fun a z => z.imp id outs_own) (outs_rs R' hv k) (fun c pc => ⟨(d c pc).1, fun z => (d c pc).2 (outs_own z)⟩) q
      | bk => exact (show False from p).elim
      | ct => exact (show False from p).elim
end
theorem run_len {Γ : Env} {fn : Fn} {ovs : List OV} (h : runBody Γ fn ovs ≠ .bad) : ovs.length = fn.np := by
  refine Classical.byContradiction fun hl => h ?_
  unfold runBody
  rw [if_neg hl]
section
variable {g : Gm} {M : Md} {mg : Str → Option Value} {Pr : Program} {w : World} {base : Heap} {gn : GN}
theorem defOk_scope {d : Dn} (h : defOk gn d = true) : L2.FnScope (d.fn.nm.map mkS) ((d.fn.nm.map mkS).take d.fn.np) (L2.defScope d.st) ∧ ((d.fn.nm.map mkS).take d.fn.np).length = d.fn.np ∧ chkSts gn d.fn.nm (L2.defScope d.st) d.fn.body (L2.defBody d.st) = true := by
  unfold defOk at h
  simp only [Bool.and_eq_true, decide_eq_true_eq, Bool.not_eq_true', List.all_eq_true] at h
  obtain ⟨⟨⟨⟨⟨⟨⟨⟨⟨h1, h2⟩, h3⟩, h4⟩, h5⟩, h6⟩, h7⟩, h8⟩, h9⟩, h10⟩ := h
  have hl : ((d.fn.nm.map mkS).take d.fn.np).length = d.fn.np := by
    rw [List.length_take, List.length_map]; omega
  refine ⟨⟨?_, h2, h3, h4, by rw [hl], fun x hx => (locB_ok (h8 x hx)).1, fun y hy e => ?_⟩, hl, h10⟩
  · split at h1
    · assumption
    · cases h1
  · have := h9 y hy
    rw [e] at this
    cases this
theorem gn_at {i n : Nat} (h : (gnOf M).dfl i n = true) : ∃ d, M.P[i]? = some d ∧ d.on = true ∧ n ∈ d.dn := by
  have h : (match M.P[i]? with
    | some d => d.on && d.dn.contains n
    | none => false) = true := h
  cases q : M.P[i]? with
  | none => rw [q] at h; cases h
  | some d =>
    rw [q] at h
    have h : (d.on && d.dn.contains n) = true := h
    rw [Bool.and_eq_true] at h
    exact ⟨d, rfl, h.1, by simpa using h.2⟩
theorem fns_ok (X : Fx g M mg Pr) (hP : ∀ (i : Nat) (d : Dn), M.P[i]? = some d → d.on = true → defOk (gnOf M) d = true ∧ BindOk d) : ∀ (n : Nat) (i : Nat) (d : Dn) (fd : FuncData) (dvs : List V), M.P[i]? = some d → d.on = true →
    L2.FunD g.K (mkS d.nm) (mkS d.qual) (L2.defArgs d.st) (L2.defBody d.st) (L2.defScope d.st) dvs [] (g.fa i) fd → FnG Pr w g.K mg base (L2.CX Pr w) (3 * n) (g.fa i) fd ((d.fn.nm.map mkS).take d.fn.np) (SpF g (gamma M n) i)
  | 0, i, d, fd, dvs, hi, ho, F => by
    have no : ∀ vs H Q E, ¬ SpF g (gamma M 0) i vs H Q E := fun vs H Q E ⟨G, ovs, F, R, p⟩ => p
    exact ⟨fun vs H Q E h => (no _ _ _ _ h).elim, fun A outer s H args us vs Q E _ _ _ _ _ h => (no _ _ _ _ h).elim⟩
  | n + 1, i, d, fd, dvs, hi, ho, F => by
    obtain ⟨S, hl, hc⟩ := defOk_scope (hP i d hi ho).1
    have hfn : (progOf M)[i]? = some d.fn := by unfold progOf; rw [List.getElem?_map, hi]; rfl
    have hcall : ∀ ovs, (gamma M (n + 1)).rho i ovs = runBody (gamma M n) d.fn ovs := fun ovs => by
      show callD (progOf M) (tbOf M) (n + 1) i ovs = _
      unfold callD
      rw [hfn]
      rfl
    have len : ∀ vs H Q E, SpF g (gamma M (n + 1)) i vs H Q E → vs.length = d.fn.np := fun vs H Q E ⟨G, ovs, F, R, p⟩ => by
      rw [hcall] at p
      have := run_len (Γ := gamma M n) (fn := d.fn) (ovs := ovs) (fun e => by rw [e] at p; exact p)
      rw [← this, R.len, List.length_map]
    refine funG (k := 3 * n + 2) F S (fun vs H Q E h => by rw [hl]; exact len vs H Q E h) fun cdv A up s H vs Q E gd hr h => ?_
    have hlen := len vs H Q E h
    obtain ⟨G, ovs, Fo, R, p⟩ := h
    rw [hcall] at p
    refine ⟨TS g (fun cls d _ H' => E cls d H') d.fn.cst (exs (gamma M n) d.fn.cst d.fn.body), ?_, body_start (by simp) hlen R p⟩
    have callOk : ∀ f m, (gnOf M).dfl f m = true → CallOk g (gamma M n) (3 * n) f m (L2.cxOf (L2.CX Pr w) Pr w g.K mg base (d.fn.nm.map mkS) (mkS d.qual) (L2.defScope d.st) (g.fa i) cdv A up s H E) := fun f m hm => by
      obtain ⟨dj, hj, onj, mj⟩ := gn_at hm
      obtain ⟨fdb, dvb, Fb, rb, _⟩ := X.def_ f dj hj onj
      obtain ⟨ok, bo⟩ := hP f dj hj onj
      obtain ⟨Sb, hlb, _⟩ := defOk_scope ok
      have e1 : (gamma M n).dfl f = dj.fn.dfl := by
        show ((progOf M)[f]?).elim [] Fn.dfl = _
        unfold progOf
        rw [List.getElem?_map, hj]
        rfl
      have rec_ := fns_ok X hP n f dj fdb dvb hj onj Fb
      by_cases hd : dj.fn.dfl = []
      · have hv : dvb = [] := by
          have := rb H
          rw [hd] at this
          exact this
        subst hv
        refine ⟨fdb, _, [], [], Fb.bindsN fun kV doc pm an cdv ct us hu => bo.1 hd _ _ _ _ kV doc pm an cdv ct us (by rw [← hlb]; exact hu), .nil, fun G => ?_, rec_⟩
        rw [e1, hd]
        unfold lastN
        rw [List.drop_nil]
        exact Reps.nil
      · obtain ⟨b1, b2, b3⟩ := bo.2 hd m mj
        have hdl : dvb.length = dj.fn.dfl.length := (rb H).length.symm
        have hv : dvb ≠ [] := fun z => by
          rw [z] at hdl
          exact hd (List.eq_nil_of_length_eq_zero hdl.symm)
        obtain ⟨ds, rd, bd⟩ := Fb.binds1 (ps := (dj.fn.nm.map mkS).take dj.fn.np) (dj.fn.np - m) (dj.fn.dfl.length - m) hv (by rw [hlb, hdl]; omega) fun T kV doc pm an cdv ct us its l1 l2 => b3 _ _ _ _ T kV doc pm an cdv ct us its l1 (l2.trans hdl)
        refine ⟨fdb, _, ds, _, bd, rd, fun G => ?_, rec_⟩
        rw [e1]
        exact (rb G).drop _
    have C : Cxt g (gnOf M) (gamma M n) d.fn.nm (3 * n) (L2.defScope d.st) (fun cls d _ H' => E cls d H') (L2.cxOf (L2.CX Pr w) Pr w g.K mg base (d.fn.nm.map mkS) (mkS d.qual) (L2.defScope d.st) (g.fa i) cdv A up s H E) := {
      hK := rfl
      hN := rfl
      nd := S.nd
      hsc := rfl
      calm := rfl
      takes := L2.takes_of rfl rfl rfl rfl
      room := hr.mono (by omega)
      gd := gd
      room2 := hr
      glb := X.glb
      fn := fun j t hj => by
        have hj : ((M.P[j]?).bind fun d => if d.on && d.cl.isNone && d.dn.contains 0 then some d.nm else none) = some t := hj
        cases hd : M.P[j]? with
        | none => rw [hd] at hj; cases hj
        | some dj =>
          rw [hd, Option.bind_some] at hj
          split at hj
          · rename_i hc
            cases hj
            simp only [Bool.and_eq_true, Option.isNone_iff_eq_none] at hc
            obtain ⟨⟨on, cn⟩, z0⟩ := hc
            obtain ⟨_, _, Fb, _, hmg⟩ := X.def_ j dj hd on
            have hcall := callOk j 0 (by
              show (match M.P[j]? with
                | some d => d.on && d.dn.contains 0
                | none => false) = true
              rw [hd]
              show (dj.on && dj.dn.contains 0) = true
              rw [on, z0]; rfl)
            obtain ⟨fd, ps, ds, dv, b1, b2, b3, b4⟩ := hcall
            have h0 := b3 H
            rw [lastN_zero] at h0
            cases (show dv = [] from h0)
            cases b2
            exact ⟨g.fa j, fd, ps, hmg cn, Fb.kp, b1, b4⟩
          · cases hj
      cls := X.cls
      ins := X.ins
      mgB := X.mgB
      mgT := X.mgT
      mgR := X.mgR
      fld := X.fld
      mth := X.mth
      dfl := callOk
      exc := X.exc
      xok := X.xok
      sub := X.sub }
    exact sts_ok d.fn.body d.fn.cst ⟨C, L2.passes_of rfl, fun _ => rfl, rfl, rfl⟩ hc
end
end PF
set_option Elab.async false
set_option linter.all false
set_option maxRecDepth 100000
set_option maxHeartbeats 2000000
/-! PF, part r1: what the head says of exception classes. -/
namespace PF
open PySem PySem.Spec PyProof.Rows
open L2 (V Hp HO)
/-! ### the text of __init__ -/
def storesB : List Stmt → List Str → Bool
  | [], fs => fs.isEmpty
  | st :: r, fs => (match st, fs with
    | .Assign [.Attribute (.Name s _) f _] (.Name x _) _, y :: fs => decide (s = ("self" : Str)) && decide (f = x) && decide (x = y) && !(f == ("__debug__" : Str)) && storesB r fs
    | _, _ => false)
def initB : List Stmt → List Str → Bool
  | .Expr (.Call (.Attribute (.Call (.Name s _) [] [] _) m ap) [.Constant (.str _) _ _] [] p3) _ :: r, fs => decide (s = ("super" : Str)) && decide (m = ("__init__" : Str)) && (ap.endLine == p3.line) && storesB r fs
  | _, _ => false
theorem storesB_ok : ∀ {l : List Stmt} {fs : List Str}, storesB l fs = true → PySem.XMK.Stores l fs
  | [], fs, h => by
    cases fs with
    | nil => exact .nil
    | cons x l => exact ff h
  | st :: r, fs, h => by
    unfold storesB at h
    split at h
    · simp only [Bool.and_eq_true, decide_eq_true_eq, Bool.not_eq_true'] at h
      obtain ⟨⟨⟨⟨rfl, rfl⟩, rfl⟩, h4⟩, h5⟩ := h
      exact .cons h4 (storesB_ok h5)
    · cases h
theorem initB_ok {l : List Stmt} {fs : List Str} (h : initB l fs = true) : PySem.XMK.InitBody l fs := by
  unfold initB at h
  split at h
  · simp only [Bool.and_eq_true, decide_eq_true_eq] at h
    obtain ⟨⟨⟨rfl, rfl⟩, h3⟩, h4⟩ := h
    exact .mk h3 (storesB_ok h4)
  · cases h
/-- what the text says -/
def xTxtB (Pr : Program) (x : Xn) : Bool :=
  let sc := L2.defScope x.st
  let fs := x.fs.map mkS
  (match sc.kind with | .function => true | _ => false) && !sc.isCoroutine && !sc.isGenerator && sc.names.all (fun y => !(y.2 == .cell)) && decide (sc.names.lookup ("super" : Str) = some .globalImplicit) && decide (sc.names.lookup ("__class__" : Str) = some .free) &&
    (("self" : Str) :: fs).all (fun y => decide (sc.names.lookup y = some .local)) && decide (("self" : Str) :: fs).Nodup && !(Pr.main.scope.names.lookup ("super" : Str)).isSome && initB (L2.defBody x.st) fs && decide (argNames (L2.defArgs x.st) = some (("self" : Str) :: fs)) && !x.fs.isEmpty && decide (fs.length ≤ 100)
/-- the builtin bases -/
def bsOf : Nat → String × String × String × List Value
  | 0 => ("ValueError", "ValueError.__new__", "ValueError.__init__", [.type "ValueError", .type "Exception", .type "BaseException", .type "object"])
  | 1 => ("RuntimeError", "RuntimeError.__new__", "RuntimeError.__init__", [.type "RuntimeError", .type "Exception", .type "BaseException", .type "object"])
  | 2 => ("LookupError", "LookupError.__new__", "LookupError.__init__", [.type "LookupError", .type "Exception", .type "BaseException", .type "object"])
  | 3 => ("IndexError", "IndexError.__new__", "IndexError.__init__", [.type "IndexError", .type "LookupError", .type "Exception", .type "BaseException", .type "object"])
  | _ => ("OverflowError", "OverflowError.__new__", "OverflowError.__init__", [.type "OverflowError", .type "ArithmeticError", .type "Exception", .type "BaseException", .type "object"])
theorem bs_ok (n : Nat) : ExcBaseFacts (bsOf n).1 (bsOf n).2.1 (bsOf n).2.2.1 (bsOf n).2.2.2 ∧ PySem.W.KxsFacts (bsOf n).1 (bsOf n).2.2.1 ∧ StoreFacts (bsOf n).1 (bsOf n).2.2.2 "object.__setattr__" "object" := by
  match n with
  | 0 => exact ⟨F.excBase_ValueError, PySem.W.kxs_ValueError, F.store_ValueError⟩
  | 1 => exact ⟨F.excBase_RuntimeError, PySem.W.kxs_RuntimeError, F.store_RuntimeError⟩
  | 2 => exact ⟨F.excBase_LookupError, PySem.W.kxs_LookupError, F.store_LookupError⟩
  | 3 => exact ⟨F.excBase_IndexError, PySem.W.kxs_IndexError, F.store_IndexError⟩
  | _ + 4 => exact ⟨F.excBase_OverflowError, PySem.W.kxs_OverflowError, F.store_OverflowError⟩
/-! ### what stands on the heap -/
abbrev XW : Type := Option (Str × Str × Arguments × FuncBody × Scope × Addr × List Str × Addr)
def initW (K : PySem.W.Frag) (a : Addr) : XW := match K.lookup a with
  | some ⟨_, _, .func fd, _⟩ => some (fd.name, fd.qualname, fd.params, fd.body, fd.scope, fd.globals, fd.closure.map (·.1), fd.builtins)
  | _ => none
def xQual (x : Xn) : Str := mkS (x.nm ++ [46, 95, 95, 105, 110, 105, 116, 95, 95])
def xVal (x : Xn) : XW := some ("__init__", xQual x, L2.defArgs x.st, .stmts (L2.defBody x.st), L2.defScope x.st, mainGlobals, ["__class__"], builtinsNs)
def xC (K : PySem.W.Frag) (x : Xn) : Addr := He.ga K (mkS x.nm)
def xF (K : PySem.W.Frag) (x : Xn) : Addr := He.ma K (xC K x) "__init__"
def cellB (K : PySem.W.Frag) (Pr : Program) (C f : Addr) (q : Str) : Bool := match K.lookup f with
  | some ⟨_, _, .func fd, _⟩ => (match fd.defaults with | .none => true | _ => false) && (match fd.closure, fd.code with
    | [(_, cc)], .ref cda => PySem.W.codeIn K (.ref cda) q && (match K.lookup cc with
      | some ⟨_, _, .cell (some (.ref D)), _⟩ => decide (D = C)
      | _ => false) && (match K.lookup cda with
      | some ⟨_, _, .fields vs, _⟩ => (match (vs[2]? : Option Value) with
        | some (.str file _) => (Pr.main.file : Str) == file
        | _ => false)
      | _ => false)
    | _, _ => false)
  | _ => false
def xHpB (K : PySem.W.Frag) (Pr : Program) (x : Xn) : Bool :=
  let C := xC K x
  let fI := xF K x
  let b := bsOf x.base
  let fs := x.fs.map mkS
  PySem.W.excInitIn K C b.2.2.2 b.2.1 && He.eqO (PySem.W.findIn K (.ref C) "__init__") (some (some (.ref fI))) && PySem.W.isFn K (.ref fI) && He.eqO (PySem.W.ks_superIn K C C "__init__") (some (some (.builtin b.2.2.1))) && decide (PySem.W.subIn K (.ref C) (.type b.1) = some true) &&
    decide (PySem.W.mroIn K C (.ref C) = some true) && He.eqO (PySem.W.nsIn K cStatics "thirdparty.any") (some none) && He.eqO (PySem.W.findIn K (.ref C) "__setattr__") (some (some (.builtin "object.__setattr__"))) && PySem.W.excOver K C b.2.2.2 && PySem.W.hasDictIn K C &&
    fs.all (fun f => He.eqO (PySem.W.takerIn K C f) (some none)) && He.eqO (PySem.W.nsIn K mainGlobals "super") (some none) && decide (PySem.W.subIn K (.ref C) (.type "BaseException") = some true) && decide (PySem.W.typeIn K (.ref C) = some (.type "type")) &&
    PySem.W.keepIn K (.ref C) && L2.xfB K C && fs.all (fun f => He.eqO (PySem.W.findIn K (.ref C) f) (some none)) && cellB K Pr C fI (xQual x)
theorem cellB_ok {K : PySem.W.Frag} {Pr : Program} {C f : Addr} {q : Str} (h : cellB K Pr C f q = true) : ∃ oc od fd osl nm cc cda, K.lookup f = some ⟨oc, od, .func fd, osl⟩ ∧ fd.defaults = .none ∧ fd.closure = [(nm, cc)] ∧ fd.code = .ref cda ∧ PySem.W.codeIn K (.ref cda) q = true ∧
    (∃ (cl : Value) (cld : Option Addr) (csl : Array (Option Value)), K.lookup cc = some ⟨cl, cld, .cell (some (.ref C)), csl⟩) ∧
    ∃ (ccl : Value) (cdd : Option Addr) (vs : Array Value) (ccs : Array (Option Value)) (file : Str) (tf : Tok), K.lookup cda = some ⟨ccl, cdd, .fields vs, ccs⟩ ∧ vs[2]? = some (.str file tf) ∧ ((Pr.main.file : Str) == file) = true := by
  unfold cellB at h
  split at h
  · rename_i oc od fd osl hf
    rw [Bool.and_eq_true] at h
    obtain ⟨h0, h⟩ := h
    have hd : fd.defaults = .none := by
      split at h0
      · assumption
      · cases h0
    split at h
    · rename_i nm cc cda h1 h2
      simp only [Bool.and_eq_true] at h
      obtain ⟨⟨k1, k2⟩, k3⟩ := h
      split at k2
      · rename_i cl cld D csl hcc
        have eD : D = C := of_decide_eq_true k2
        subst eD
        split at k3
        · rename_i ccl cdd vs ccs hcda
          split at k3
          · rename_i file tf hvs
            exact ⟨oc, od, fd, osl, nm, cc, cda, hf, hd, h1, h2, k1, ⟨cl, cld, csl, hcc⟩, ccl, cdd, vs, ccs, file, tf, hcda, hvs, k3⟩
          · cases k3
        · cases k3
      · cases k2
    · cases h
  · cases h
/-- the parameters are bound -/
def BindX (x : Xn) : Prop := ∀ (name qual : Str) (body : List Stmt) (scope : Scope) (kV doc pm : Value) (an : Option Addr) (cdv ct : Value) (cc : Addr) (us : List Value), us.length = x.fs.length + 1 →
  bindArgs (PySem.W.ksFn name qual (L2.defArgs x.st) body scope .none kV doc pm an cdv ct cc) ⟨us, []⟩ = pure ((("self" : Str) :: x.fs.map mkS).zip us)
theorem argNames_ok {a : Arguments} {l : List Str} (h : argNames a = some l) : a.posonlyargs = [] ∧ a.args.map (·.arg) = l := by
  unfold argNames at h
  split at h
  · cases h; exact ⟨rfl, rfl⟩
  · cases h
theorem xok_of {K : PySem.W.Frag} {Pr : Program} {x : Xn} (ht : xTxtB Pr x = true) (hh : xHpB K Pr x = true) (hv : initW K (xF K x) = xVal x) (hb : BindX x) : XOk K Pr (xC K x) (x.fs.map mkS) := by
  unfold xTxtB at ht
  unfold xHpB at hh
  simp only [Bool.and_eq_true, decide_eq_true_eq, Bool.not_eq_true', List.all_eq_true] at ht hh
  obtain ⟨⟨⟨⟨⟨⟨⟨⟨⟨⟨⟨⟨t1, t2⟩, t3⟩, t4⟩, t5⟩, t6⟩, t7⟩, t8⟩, t9⟩, t10⟩, t11⟩, t12⟩, t13⟩ := ht
  obtain ⟨⟨⟨⟨⟨⟨⟨⟨⟨⟨⟨⟨⟨⟨⟨⟨⟨h1, h2⟩, h3⟩, h4⟩, h5⟩, h6⟩, h7⟩, h8⟩, h9⟩, h10⟩, h11⟩, h12⟩, h13⟩, h14⟩, h15⟩, h16⟩, h17⟩, h18⟩ := hh
  obtain ⟨b1, b2, b3⟩ := bs_ok x.base
  obtain ⟨a1, a2⟩ := argNames_ok t11
  refine ⟨⟨xF K x, _, _, _, _, xQual x, L2.defBody x.st, L2.defScope x.st, {
      FB := b1
      KF := b2
      SF := b3
      ini := h1
      own := He.eqO_ok h2
      fn := h3
      up := He.eqO_ok h4
      sub := h5
      slf := h6
      any_ := He.eqO_ok h7
      sa := He.eqO_ok h8
      over := h9
      dict := h10
      take := fun f hf => He.eqO_ok (h11 f hf)
      glb := He.eqO_ok h12 }, {
      at_ := ?_
      body := initB_ok t10
      kind := ?_
      co := t2
      gen := t3
      cells := fun y hy e => ?_
      sup := t5
      cls := t6
      loc := fun y hy => t7 y hy
      nd := t8
      top := t9 }⟩, h13, h14, h15, (List.nodup_cons.mp t8).2, ?_, t13, L2.xfB_ok h16, fun f hf => He.eqO_ok (h17 f hf)⟩
  · obtain ⟨oc, od, fd, osl, nm, cc, cda, q, f0, f1, f2, k1, ⟨cl, cld, csl, hcc⟩, ccl, cdd, vs, ccs, file, tf, hcda, hvs, k3⟩ := cellB_ok h18
    unfold initW at hv
    rw [q] at hv
    obtain ⟨n1, n2, n3, n4, n5, n6, n7, n8, n9, n10, n11, n12, n13, n14, n15⟩ := fd
    have f0 : n8 = .none := f0
    have f1 : n7 = [(nm, cc)] := f1
    have f2 : n13 = .ref cda := f2
    subst f0 f1 f2
    have hv2 : (some (n1, n2, n3, n4, n5, n6, [nm], n15) : XW) = (some (("__init__" : Str), xQual x, L2.defArgs x.st, FuncBody.stmts (L2.defBody x.st), L2.defScope x.st, mainGlobals, [("__class__" : Str)], builtinsNs) : XW) := hv
    clear hv
    simp only [Option.some.injEq, Prod.mk.injEq, List.cons.injEq, and_true] at hv2
    obtain ⟨e1, e2, e3, e4, e5, e6, e7, e8⟩ := hv2
    subst e1 e2 e3 e4 e5 e6 e7 e8
    have hargs : ∃ ar, (L2.defArgs x.st).args.head? = some ar ∧ ar.arg = "self" := by
      cases ha : (L2.defArgs x.st).args with
      | nil => rw [ha] at a2; cases a2
      | cons ar r =>
        rw [ha, List.map_cons] at a2
        exact ⟨ar, rfl, (List.cons.inj a2).1⟩
    obtain ⟨ar, g1, g2⟩ := hargs
    exact ⟨oc, od, "__init__", L2.defArgs x.st, .none, n9, n10, n11, n12, n14, cda, cc, osl, ar, q, k1, by rw [a1, List.nil_append]; exact g1, g2, fun us hu => hb "__init__" _ _ _ n9 n10 n11 n12 (.ref cda) n14 cc us (by simpa using hu), ⟨ccl, cdd, vs, ccs, file, tf, hcda, hvs, k3⟩, cl, cld, csl, hcc⟩
  · split at t1
    · assumption
    · cases t1
  · have := t4 y hy
    rw [e] at this
    cases this
  · intro z
    have : x.fs = [] := List.map_eq_nil_iff.mp z
    rw [this] at t12
    cases t12
end PF
set_option Elab.async false
set_option linter.all false
set_option maxRecDepth 100000
set_option maxHeartbeats 2000000
/-! PF, part r2: the head's facts. -/
namespace PF
open PySem PySem.Spec PyProof.Rows
open L2 (V Hp HO upd upd_same upd_ne Same SqL SqT WX PE PT PA PC PS PSs OpR CallR IxR SlR MtR TruR VK Ends)
/-! ### module constants -/
mutual
def valB (K : PySem.W.Frag) : PV → Value → Bool
  | .non, u => (match u with | .none => true | _ => false)
  | .bl b, u => (match u with | .bool c => b == c | _ => false)
  | .int i, u => (match u with | .int j _ => decide (i = j) | _ => false)
  | .str t, u => (match u with | .str y _ => decide (mkS t = y) | _ => false)
  | .tup xs, u => (match u with
    | .ref a => (match K.lookup a with
      | some ⟨.type c, _, .seq its _, _⟩ => decide (c = "tuple") && decide (its.size ≤ sizeLine) && valsB K xs its.toList
      | _ => false)
    | _ => false)
  | .frz xs, u => (match u with
    | .ref a => (match K.lookup a with
      | some ⟨.type c, none, .seq its _, _⟩ => decide (c = "list") && decide (its.size ≤ sizeLine) && valsB K xs its.toList
      | _ => false)
    | _ => false)
  | _, _ => false
def valsB (K : PySem.W.Frag) : List PV → List Value → Bool
  | [], us => us.isEmpty
  | x :: xs, us => (match us with
    | u :: us => valB K x u && valsB K xs us
    | _ => false)
end
mutual
theorem valB_ok {g : Gm} {K : PySem.W.Frag} (hK : g.K = K) : ∀ (v : PV) (u : Value), valB K v u = true → ∃ x, L2.RelV x u ∧ ∀ G, Rep g G v x
  | .non, u, h => by
    cases u <;> first | exact ff h | skip
    exact ⟨.non, rfl, fun G => rfl⟩
  | .bl b, u, h => by
    cases u <;> first | exact ff h | skip
    rename_i c
    have e : b = c := beq_iff_eq.mp (show (b == c) = true from h)
    subst e
    exact ⟨.bl b, rfl, fun G => rfl⟩
  | .int i, u, h => by
    cases u <;> first | exact ff h | skip
    rename_i j t
    have e : i = j := of_decide_eq_true (show decide (i = j) = true from h)
    subst e
    exact ⟨.int i, ⟨t, rfl⟩, fun G => rfl⟩
  | .str s, u, h => by
    cases u <;> first | exact ff h | skip
    rename_i y t
    have e : mkS s = y := of_decide_eq_true (show decide (mkS s = y) = true from h)
    subst e
    exact ⟨.str (mkS s), ⟨t, rfl⟩, fun G => rfl⟩
  | .tup xs, u, h => by
    cases u <;> first | exact ff h | skip
    rename_i a
    have h : (match K.lookup a with
      | some ⟨.type c, _, .seq its _, _⟩ => decide (c = "tuple") && decide (its.size ≤ sizeLine) && valsB K xs its.toList
      | _ => false) = true := h
    cases q : K.lookup a with
    | none => rw [q] at h; exact ff h
    | some o =>
      obtain ⟨oc, od, dt, osl⟩ := o
      rw [q] at h
      cases oc <;> first | exact ff h | skip
      cases dt <;> first | exact ff h | skip
      rename_i c its n
      have h : (decide (c = "tuple") && decide (its.size ≤ sizeLine) && valsB K xs its.toList) = true := h
      simp only [Bool.and_eq_true, decide_eq_true_eq] at h
      obtain ⟨⟨h1, h2⟩, h3⟩ := h
      obtain ⟨vs, r, hr⟩ := valsB_ok hK xs its.toList h3
      exact ⟨.ref a, rfl, fun G => ⟨a, vs, rfl, .inr ⟨_, its, n, by rw [hK]; exact q, congrArg Value.type h1, rfl, h2, r⟩, hr G⟩⟩
  | .frz xs, u, h => by
    cases u <;> first | exact ff h | skip
    rename_i a
    have h : (match K.lookup a with
      | some ⟨.type c, none, .seq its _, _⟩ => decide (c = "list") && decide (its.size ≤ sizeLine) && valsB K xs its.toList
      | _ => false) = true := h
    cases q : K.lookup a with
    | none => rw [q] at h; exact ff h
    | some o =>
      obtain ⟨oc, od, dt, osl⟩ := o
      rw [q] at h
      cases oc <;> first | exact ff h | (cases od <;> exact ff h) | skip
      cases od <;> first | exact ff h | (cases dt <;> exact ff h) | skip
      cases dt <;> first | exact ff h | skip
      rename_i c its n
      have h : (decide (c = "list") && decide (its.size ≤ sizeLine) && valsB K xs its.toList) = true := h
      simp only [Bool.and_eq_true, decide_eq_true_eq] at h
      obtain ⟨⟨h1, h2⟩, h3⟩ := h
      obtain ⟨vs, r, hr⟩ := valsB_ok hK xs its.toList h3
      exact ⟨.ref a, rfl, fun G => ⟨a, vs, rfl, .inr ⟨_, its, n, by rw [hK]; exact q, congrArg Value.type h1, rfl, rfl, h2, r⟩, hr G⟩⟩
  | .lst _, u, h => ff h
  | .ins _ _, u, h => ff h
  | .dct _ _, u, h => ff h
theorem valsB_ok {g : Gm} {K : PySem.W.Frag} (hK : g.K = K) : ∀ (v : List PV) (u : List Value), valsB K v u = true → ∃ x, L2.Vals x u ∧ ∀ G, Reps g G v x
  | [], us, h => by
    cases us with
    | nil => exact ⟨[], .nil, fun G => rfl⟩
    | cons u us => exact ff h
  | x :: xs, us, h => by
    cases us with
    | nil => exact ff h
    | cons u us =>
      have h : (valB K x u && valsB K xs us) = true := h
      rw [Bool.and_eq_true] at h
      obtain ⟨v, r, hr⟩ := valB_ok hK x u h.1
      obtain ⟨vs, rs, hrs⟩ := valsB_ok hK xs us h.2
      exact ⟨v :: vs, .cons r rs, fun G => Reps.cons (hr G) (hrs G)⟩
end
def glbB (K : PySem.W.Frag) (q : Tx × PV) : Bool := match PySem.W.nsIn K mainGlobals (mkS q.1) with
  | some (some u) => valB K q.2 u
  | _ => false
def freeL : List Str := ["len", "abs", "max", "min", "tuple", "list", "int", "all", "any", "sum", "repr", "bool", "str", "dict", "range", "enumerate", "zip", "isinstance"]
def freeB (K : PySem.W.Frag) (x : Str) : Bool := He.eqO (PySem.W.nsIn K mainGlobals x) (some none)
def gloB (K : PySem.W.Frag) (x : Str) : Bool := He.eqO (PySem.W.nsIn K mainGlobals x) (some (some (.ref (He.ga K x))))
/-! ### classes -/
def clA (K : PySem.W.Frag) (M : Md) (c : Nat) : Addr := match M.C[c]? with
  | some x => He.ga K (mkS x.nm)
  | none => 0
def faOf (K : PySem.W.Frag) (M : Md) (d : Dn) : Addr := match d.cl with
  | none => He.ga K (mkS d.nm)
  | some (c, .prop) => He5.wf K (clA K M c) "property" (mkS d.nm)
  | some (c, .stat) => He5.wf K (clA K M c) "staticmethod" (mkS d.nm)
  | some (c, .kmeth) => He5.wf K (clA K M c) "classmethod" (mkS d.nm)
  | some (c, _) => He.ma K (clA K M c) (mkS d.nm)
/-- the class is there -/
def clOn (M : Md) (c : Nat) : Bool := match M.C[c]? with
  | some x => !x.nm.isEmpty
  | none => false
def gm (K : PySem.W.Frag) (M : Md) : Gm where
  K := K
  cl := clA K M
  fnm := fun c => (M.C[c]?).elim [] fun x => x.flds.map mkS
  kn := fun c => clOn M c = true
  fa := fun i => match M.P[i]? with
    | some d => faOf K M d
    | none => 0
  xcl := fun c => (M.X[c]?).elim 0 (xC K)
  xfn := fun c => (M.X[c]?).elim [] fun x => x.fs.map mkS
def tyNs : List String := ["NoneType", "bool", "int", "str", "tuple", "list", "dict"]
def clsB (K : PySem.W.Frag) (M : Md) (c : Nat) (x : Cn) : Bool :=
  let C := He.ga K (mkS x.nm)
  gloB K (mkS x.nm) && PySem.W.plainGet K C Str.empty && PySem.W.hasDictIn K C && PySem.W.plainOver K C && He.eqO (PySem.W.findIn K (.ref C) "__setattr__") (some (some (.builtin "object.__setattr__"))) &&
    x.flds.all (fun f => He.eqO (PySem.W.findIn K (.ref C) (mkS f)) (some none)) && decide (x.flds.map mkS).Nodup && decide (x.flds.length ≤ 900) && tyNs.all (fun t => decide (PySem.W.kitOne K (.type t) (.ref C) = some false)) &&
    (List.range M.C.length).all (fun c' => !clOn M c' || decide (PySem.W.kitOne K (.ref (clA K M c')) (.ref C) = some (decide (c = c')))) && tyNs.all (fun t => decide (PySem.W.kitOne K (.ref C) (.type t) = some false)) &&
    He.eqO (PySem.W.findIn K (.ref C) "__class__") (some (some (.builtin "object.__class__"))) && He.eqO (PySem.W.specialIn K (.builtin "object.__class__") "__get__") (some (some (.builtin "getset_descriptor.__get__"))) &&
    decide (PySem.W.takesIn K (.builtin "object.__class__") = some true) && decide (PySem.W.mroIn K C (.type "object") = some true)
structure ClsF (K : PySem.W.Frag) (M : Md) (c : Nat) (x : Cn) (C : Addr) : Prop where
  glo : PySem.W.nsIn K mainGlobals (mkS x.nm) = some (some (.ref C))
  cls : L2.Cls K C
  no : ∀ f, f ∈ x.flds.map mkS → L2.NoAttr K C f
  nd : (x.flds.map mkS).Nodup
  few : (x.flds.map mkS).length ≤ 900
  k1 : ∀ t, t ∈ tyNs → PySem.W.kitOne K (.type t) (.ref C) = some false
  k2 : ∀ c', clOn M c' = true → PySem.W.kitOne K (.ref (clA K M c')) (.ref C) = some (decide (c = c'))
  k3 : ∀ t, t ∈ tyNs → PySem.W.kitOne K (.ref C) (.type t) = some false
  ty : ∀ H a dx fs, H a = some (.ins C dx fs) → L2.TyX K H (.ref a) (.ref C)
theorem clOn_at {M : Md} {c : Nat} (h : clOn M c = true) : ∃ x, M.C[c]? = some x ∧ x.nm.isEmpty = false := by
  unfold clOn at h
  cases q : M.C[c]? with
  | none => rw [q] at h; cases h
  | some x => rw [q] at h; exact ⟨x, rfl, by simpa using h⟩
theorem clOn_lt {M : Md} {c : Nat} (h : clOn M c = true) : c < M.C.length := by
  obtain ⟨x, e, _⟩ := clOn_at h
  exact (List.getElem?_eq_some_iff.mp e).1
theorem clsB_ok {K : PySem.W.Frag} {M : Md} {c : Nat} {x : Cn} (h : clsB K M c x = true) : ClsF K M c x (He.ga K (mkS x.nm)) := by
  unfold clsB at h
  simp only [Bool.and_eq_true, decide_eq_true_eq, List.all_eq_true] at h
  obtain ⟨⟨⟨⟨⟨⟨⟨⟨⟨⟨⟨⟨⟨⟨h1, h2⟩, h3⟩, h4⟩, h5⟩, h6⟩, h7⟩, h8⟩, h9⟩, h10⟩, h11⟩, h12⟩, h13⟩, h14⟩, h15⟩ := h
  have cl : L2.Cls K (He.ga K (mkS x.nm)) := ⟨h2, h3, h4, He.eqO_ok h5⟩
  exact ⟨He.eqO_ok h1, cl, fun f hf => by
    obtain ⟨t, ht, rfl⟩ := List.mem_map.mp hf
    exact He.eqO_ok (h6 t ht), h7, by rw [List.length_map]; exact h8, h9, fun c' hc => by
    have z := h10 c' (List.mem_range.mpr (clOn_lt hc))
    rw [hc] at z
    simpa using z, h11, fun H a dx fs e => .base (.ins e cl (He.eqO_ok h12) (He.eqO_ok h13) h14 h15)⟩
def readB (K : PySem.W.Frag) (C : Addr) : Bool := PySem.W.readsIn K C (.type "type") && He.eqO (PySem.W.specialIn K (.ref C) "__getattribute__") (some (some (.builtin "type.__getattribute__")))
def mthF (K : PySem.W.Frag) (M : Md) (d : Dn) : Bool := match d.cl with
  | none => gloB K (mkS d.nm)
  | some (c, k) => clOn M c && (match k with
    | .meth => He.eqO (PySem.W.findIn K (.ref (clA K M c)) (mkS d.nm)) (some (some (.ref (He.ma K (clA K M c) (mkS d.nm))))) && PySem.W.isFn K (.ref (He.ma K (clA K M c) (mkS d.nm))) && PySem.W.keepIn K (.ref (He.ma K (clA K M c) (mkS d.nm))) &&
        !((M.C[c]?).elim [] fun x => x.flds.map mkS).contains (mkS d.nm)
    | .prop => He.eqO (PySem.W.findIn K (.ref (clA K M c)) (mkS d.nm)) (some (some (.ref (He.ma K (clA K M c) (mkS d.nm))))) && He.eqO (PySem.W.specialIn K (.ref (He.ma K (clA K M c) (mkS d.nm))) "__get__") (some (some (.builtin "property.__get__"))) &&
        decide (PySem.W.takesIn K (.ref (He.ma K (clA K M c) (mkS d.nm))) = some true) && (match PySem.W.recIn K (He.ma K (clA K M c) (mkS d.nm)) "property" with
        | some (.ref _ :: _) => true
        | _ => false)
    | .init => decide (mkS d.nm = ("__init__" : Str)) && PySem.W.makesIn K (clA K M c) && He.eqO (PySem.W.findIn K (.ref (clA K M c)) "__init__") (some (some (.ref (He.ma K (clA K M c) "__init__")))) && PySem.W.isFn K (.ref (He.ma K (clA K M c) "__init__")) && PySem.W.keepIn K (.ref (clA K M c))
    | .stat => readB K (clA K M c) && He5.wrapB K (clA K M c) "staticmethod" "staticmethod.__get__" (mkS d.nm) && PySem.W.keepIn K (.ref (He5.wf K (clA K M c) "staticmethod" (mkS d.nm)))
    | .kmeth => readB K (clA K M c) && He5.wrapB K (clA K M c) "classmethod" "classmethod.__get__" (mkS d.nm) && PySem.W.fnIn K (He5.wf K (clA K M c) "classmethod" (mkS d.nm)))
theorem readB_ok {K : PySem.W.Frag} {C : Addr} (h : readB K C = true) : ClX.CRead K C (.type "type") := by
  unfold readB at h
  rw [Bool.and_eq_true] at h
  exact ⟨h.1, He.eqO_ok h.2⟩
theorem mthF_ok {K : PySem.W.Frag} {M : Md} {d : Dn} {i c : Nat} {k : MK} (hP : M.P[i]? = some d) (hc : d.cl = some (c, k)) (h : mthF K M d = true) (hcls : ∀ (c : Nat) (x : Cn), M.C[c]? = some x → x.nm.isEmpty = false → ClsF K M c x (He.ga K (mkS x.nm))) : MthOk K (gm K M) i c (mkS d.nm) k := by
  have hfa : (gm K M).fa i = faOf K M d := by
    show (match M.P[i]? with
      | some d => faOf K M d
      | none => 0) = _
    rw [hP]
  unfold mthF at h
  rw [hc] at h
  dsimp only at h
  rw [Bool.and_eq_true] at h
  obtain ⟨hlt, h⟩ := h
  obtain ⟨xc, hx, hxn⟩ := clOn_at hlt
  have hcl := (hcls c _ hx hxn).cls
  have eC : clA K M c = He.ga K (mkS xc.nm) := by unfold clA; rw [hx]
  rw [← eC] at hcl
  unfold MthOk
  rw [hfa]
  unfold faOf
  rw [hc]
  cases k with
  | meth =>
    simp only [Bool.and_eq_true, Bool.not_eq_true'] at h
    obtain ⟨⟨⟨h1, h2⟩, h3⟩, h4⟩ := h
    refine ⟨hcl, ⟨He.eqO_ok h1, h2, h3⟩, ?_⟩
    show mkS d.nm ∉ ((M.C[c]?).elim [] fun x => x.flds.map mkS)
    simpa using h4
  | prop =>
    simp only [Bool.and_eq_true, decide_eq_true_eq] at h
    obtain ⟨⟨⟨h1, h2⟩, h3⟩, h4⟩ := h
    refine ⟨hcl, He.ma K (clA K M c) (mkS d.nm), He.eqO_ok h1, He.eqO_ok h2, h3, ?_⟩
    show ∃ rest, PySem.W.recIn K (He.ma K (clA K M c) (mkS d.nm)) "property" = some (.ref (He5.wf K (clA K M c) "property" (mkS d.nm)) :: rest)
    unfold He5.wf
    split at h4
    · rename_i f r e
      rw [e]
      exact ⟨r, rfl⟩
    · cases h4
  | init =>
    simp only [Bool.and_eq_true, decide_eq_true_eq] at h
    obtain ⟨⟨⟨⟨h1, h2⟩, h3⟩, h4⟩, h5⟩ := h
    rw [h1]
    exact ⟨hlt, h2, He.eqO_ok h3, h4, h5⟩
  | stat =>
    simp only [Bool.and_eq_true] at h
    obtain ⟨⟨h1, h2⟩, h3⟩ := h
    obtain ⟨w1, w2⟩ := He5.wrapB_ok h2
    exact ⟨_, _, readB_ok h1, w1, w2, h3⟩
  | kmeth =>
    simp only [Bool.and_eq_true] at h
    obtain ⟨⟨h1, h2⟩, h3⟩ := h
    exact ⟨_, _, readB_ok h1, He5.cmet_of h2 h3⟩
/-! ### what is seen of the head -/
def dvOf : PV → He.Dv
  | .non => .non
  | .bl b => .bl b
  | .int i => .int i
  | .str t => .str (mkS t)
  | _ => .ty ""
def dA (M : Md) (d : Dn) : He5.DefA where
  at_ := fun K => faOf K M d
  name := mkS d.nm
  qual := mkS d.qual
  params := L2.defArgs d.st
  body := L2.defBody d.st
  scope := L2.defScope d.st
  dfl := d.fn.dfl.map dvOf
abbrev AlM : Type := Bool × List (Option He5.FnW) × List (Option XW)
def facB (M : Md) (Pr : Program) (K : PySem.W.Frag) : Bool :=
  freeL.all (freeB K) && M.gl.all (fun q => q.1.isEmpty || glbB K q) && M.P.all (fun d => !d.on || (mthF K M d && (dA M d).ok K && d.fn.dfl.all flatP)) && (List.range M.C.length).all (fun c => match M.C[c]? with
    | some x => x.nm.isEmpty || clsB K M c x
    | none => false) && M.X.all (fun x => (x.nm.isEmpty && x.fs.isEmpty) || (gloB K (mkS x.nm) && (x.fs.isEmpty || xHpB K Pr x))) && M.C.all (fun x => !x.nm.isEmpty || x.flds.isEmpty) && M.sub.all fun q => decide (PySem.W.exmOne K (.ref ((gm K M).xcl q.1)) (.ref ((gm K M).xcl q.2.1)) = some q.2.2)
def obsM (M : Md) (Pr : Program) (K : PySem.W.Frag) : AlM := (facB M Pr K, M.P.map (fun d => if d.on then some (He5.fnA K (faOf K M d)) else none), M.X.map fun x => if x.fs.isEmpty then none else some (initW K (xF K x)))
def valM (M : Md) : AlM := (true, M.P.map (fun d => if d.on then some (dA M d).val else none), M.X.map fun x => if x.fs.isEmpty then none else some (xVal x))
def obsMG (n : Nat) (M : Md) (Pr : Program) (g : Addr → Option Obj) : AlM := obsM M Pr (He.frG g (He5.asA g n))
def hookM (n : Nat) (M : Md) (Pr : Program) : PySem.W.Hook where
  α := AlM
  obs := fun s => obsMG n M Pr s.heap.get?
  val := fun _ => valM M
  says := fun _ h => ∃ K : PySem.W.Frag, K.In h ∧ obsM M Pr K = valM M
  of := fun _ _ e => ⟨_, He.frG_in, e⟩
  keeps := fun _ _ _ ⟨K, hK, c⟩ k => ⟨K, PySem.W.Frag.In.keeps hK k, c⟩
theorem obsMG_eq {n : Nat} {M : Md} {Pr : Program} {g : Addr → Option Obj} {s : Shared} (h : ∀ a, g a = s.heap.get? a) : obsMG n M Pr g = (hookM n M Pr).obs s := by
  have e : g = s.heap.get? := funext h
  rw [e] <;> rfl
theorem dflt_reps {g : Gm} {K : PySem.W.Frag} : ∀ {l : List PV}, l.all flatP = true → ∀ G, Reps g G l ((l.map dvOf).map (He.Dv.v K))
  | [], _, G => rfl
  | v :: l, h, G => by
    have h : (flatP v && l.all flatP) = true := h
    rw [Bool.and_eq_true] at h
    refine Reps.cons ?_ (dflt_reps h.2 G)
    cases v <;> first | exact rfl | exact ff h.1
section
variable {M : Md} {K : PySem.W.Frag} {h : Heap} {mg : Str → Option Value} {Pr : Program}
theorem sub_mem {l : List (Nat × Nat × Bool)} {a b : Nat} {v : Bool} (h : subF l a b = some v) : (a, b, v) ∈ l := by
  unfold subF at h
  cases q : l.find? (fun q => q.1 == a && q.2.1 == b) with
  | none => rw [q] at h; cases h
  | some z =>
    rw [q] at h
    have hz := List.find?_some q
    have hm := List.mem_of_find?_eq_some q
    obtain ⟨z1, z2, z3⟩ := z
    have hz2 : (z1 == a && z2 == b) = true := hz
    rw [Bool.and_eq_true, beq_iff_eq, beq_iff_eq] at hz2
    have h : some z3 = some v := h
    cases h
    rw [hz2.1, hz2.2] at hm
    exact hm
theorem fx_of (X : K.In h) (G : h.Ns mainGlobals mg) (c : obsM M Pr K = valM M) (hx : ∀ (c : Nat) (x : Xn), M.X[c]? = some x → x.fs ≠ [] → xTxtB Pr x = true ∧ BindX x) : Fx (gm K M) M mg Pr := by
  have c1 : facB M Pr K = true := congrArg (fun z : AlM => z.1) c
  have c2 : (M.P.map fun d => if d.on then some (He5.fnA K (faOf K M d)) else none) = M.P.map fun d => if d.on then some (dA M d).val else none := congrArg (fun z : AlM => z.2.1) c
  have c3 : (M.X.map fun x => if x.fs.isEmpty then none else some (initW K (xF K x))) = M.X.map fun x => if x.fs.isEmpty then none else some (xVal x) := congrArg (fun z : AlM => z.2.2) c
  unfold facB at c1
  simp only [Bool.and_eq_true, List.all_eq_true] at c1
  obtain ⟨⟨⟨⟨⟨⟨hf, hg⟩, hd⟩, hc⟩, hX⟩, hC⟩, hs⟩ := c1
  have fr : ∀ x, x ∈ freeL → mg x = none := fun x hx => PySem.W.mg_none_of X G (He.eqO_ok (hf x hx))
  have hcls : ∀ (c : Nat) (x : Cn), M.C[c]? = some x → x.nm.isEmpty = false → ClsF K M c x (He.ga K (mkS x.nm)) := fun c x e ne => by
    have z := hc c (List.mem_range.mpr (List.getElem?_eq_some_iff.mp e).1)
    rw [e] at z
    have z : (x.nm.isEmpty || clsB K M c x) = true := z
    rw [ne, Bool.false_or] at z
    exact clsB_ok z
  have clE : ∀ (c : Nat) (x : Cn), M.C[c]? = some x → (gm K M).cl c = He.ga K (mkS x.nm) := fun c x e => by
    show clA K M c = _
    unfold clA; rw [e]
  have ptd : ∀ (i : Nat) (d : Dn), M.P[i]? = some d → d.on = true → mthF K M d = true ∧ (dA M d).ok K = true ∧ d.fn.dfl.all flatP = true := fun i d e on => by
    have z := hd d (List.mem_of_getElem? e)
    rw [on] at z
    simp only [Bool.not_true, Bool.false_or, Bool.and_eq_true] at z
    exact ⟨z.1.1, z.1.2, z.2⟩
  refine ⟨fun i t v e1 e2 => ?_, fun i d hi on => ?_, fun c t e => ?_, fun c t e => ?_, fun b => fr _ ?_, fun t n e => fr _ ?_, ⟨fr _ (by decide), fr _ (by decide), fr _ (by decide), fr _ (by decide)⟩, fun c i t e => ?_, fun f c t m e => ?_, fun c t e => ?_, fun c i t e => ?_, fun c c' b e => ?_⟩
  · cases q : M.gl[i]? with
    | none =>
      have e1 : ((M.gl[i]?).bind fun q => if q.1.isEmpty then none else some q.1) = some t := e1
      rw [q] at e1; cases e1
    | some p =>
      have e1 : ((M.gl[i]?).bind fun q => if q.1.isEmpty then none else some q.1) = some t := e1
      have e2 : (M.gl[i]?).map (·.2) = some v := e2
      rw [q] at e1 e2; cases e2
      rw [Option.bind_some] at e1
      have ne : p.1.isEmpty = false := by
        cases hh : p.1.isEmpty with
        | false => rfl
        | true => rw [hh, if_pos rfl] at e1; cases e1
      rw [ne, if_neg Bool.false_ne_true] at e1; cases e1
      have z := hg p (List.mem_of_getElem? q)
      rw [ne, Bool.false_or] at z
      unfold glbB at z
      cases w : PySem.W.nsIn K mainGlobals (mkS p.1) with
      | none => rw [w] at z; exact ff z
      | some o =>
        cases o with
        | none => rw [w] at z; exact ff z
        | some u =>
          rw [w] at z
          obtain ⟨x, r, hr⟩ := valB_ok (g := gm K M) rfl p.2 u z
          exact ⟨u, x, PySem.W.mg_of X G w, r, hr⟩
  · obtain ⟨z1, z2, z3⟩ := ptd i d hi on
    have e : (M.P.map fun d => if d.on then some (He5.fnA K (faOf K M d)) else none)[i]? = (M.P.map fun d => if d.on then some (dA M d).val else none)[i]? := by rw [c2]
    rw [List.getElem?_map, List.getElem?_map, hi, Option.map_some, Option.map_some, if_pos on, if_pos on] at e
    obtain ⟨fd, F⟩ := He5.DefA.funD (d := dA M d) (Option.some.inj (Option.some.inj e)) z2
    have hfa : (gm K M).fa i = faOf K M d := by
      show (match M.P[i]? with
        | some d => faOf K M d
        | none => 0) = _
      rw [hi]
    rw [hfa]
    refine ⟨fd, _, F, fun G => dflt_reps z3 G, fun hn => ?_⟩
    unfold mthF at z1
    rw [hn] at z1
    unfold faOf
    rw [hn]
    exact PySem.W.mg_of X G (He.eqO_ok z1)
  · have e : ((M.C[c]?).bind fun x => if x.nm.isEmpty then none else some x.nm) = some t := e
    cases q : M.C[c]? with
    | none => rw [q] at e; cases e
    | some x =>
      rw [q, Option.bind_some] at e
      have ne : x.nm.isEmpty = false := by
        cases hh : x.nm.isEmpty with
        | false => rfl
        | true => rw [hh, if_pos rfl] at e; cases e
      rw [ne, if_neg Bool.false_ne_true] at e; cases e
      have z := hcls c x q ne
      rw [clE c x q]
      refine ⟨PySem.W.mg_of X G z.glo, fun v kn => ?_⟩
      cases v with
      | ins c' fs =>
        have z2 := z.k2 c' kn
        show PySem.W.kitOne K (.ref (clA K M c')) _ = some (decide (Ty.cls c' = Ty.cls c) |> fun _ => isTy (.cls c) (.ins c' fs))
        rw [z2]
        show some (decide (c = c')) = some (decide (Ty.cls c = Ty.cls c'))
        by_cases e : c = c'
        · subst e; simp
        · have : Ty.cls c ≠ Ty.cls c' := fun z => e (Ty.cls.inj z)
          rw [decide_eq_false e, decide_eq_false this]
      | _ => exact z.k1 _ (by decide)
  · have kn : clOn M c = true := e
    obtain ⟨xc, q, ne⟩ := clOn_at kn
    have z := hcls c _ q ne
    rw [clE c _ q]
    refine ⟨fun H a dx fs e => z.ty H a dx fs e, fun h1 h2 => ?_⟩
    cases t with
    | cls c' => exact absurd rfl (h2 c')
    | _ => exact z.k3 _ (by decide)
  · cases b <;> decide
  · cases t <;> first | (cases e; decide) | cases e
  · have e : ((M.C[c]?).bind fun d => d.flds[i]?) = some t := e
    cases q : M.C[c]? with
    | none => rw [q] at e; cases e
    | some x =>
      rw [q] at e
      have e : x.flds[i]? = some t := e
      have z := hcls c x q (by
        have z := hC x (List.mem_of_getElem? q)
        cases hh : x.nm.isEmpty with
        | false => rfl
        | true =>
          rw [hh] at z
          have z : x.flds.isEmpty = true := z
          rw [List.isEmpty_iff.mp z] at e
          simp at e)
      have ef : (gm K M).fnm c = x.flds.map mkS := by
        show (M.C[c]?).elim [] (fun x => x.flds.map mkS) = _
        rw [q]; rfl
      rw [clE c x q, ef]
      refine ⟨z.cls, by rw [List.getElem?_map, e]; rfl, ?_, ?_, ?_⟩
      · rw [ef]; exact z.nd
      · rw [ef, clE c x q]; exact z.no
      · rw [ef]; exact z.few
  · have e : ((M.P[f]?).bind fun d => if d.on then d.cl.map fun q => (q.1, d.nm, q.2) else none) = some (c, t, m) := e
    cases q : M.P[f]? with
    | none => rw [q] at e; cases e
    | some d =>
      rw [q, Option.bind_some] at e
      split at e
      · rename_i on
        cases hcl : d.cl with
        | none => rw [hcl] at e; cases e
        | some p =>
          rw [hcl] at e
          obtain ⟨p1, p2⟩ := p
          cases e
          exact mthF_ok q hcl (ptd f d q on).1 hcls
      · cases e
  · have e : ((M.X[c]?).bind fun x => if x.nm.isEmpty then none else some x.nm) = some t := e
    cases q : M.X[c]? with
    | none => rw [q] at e; cases e
    | some x =>
      rw [q, Option.bind_some] at e
      have ne : x.nm.isEmpty = false := by
        cases hh : x.nm.isEmpty with
        | false => rfl
        | true => rw [hh, if_pos rfl] at e; cases e
      rw [ne, if_neg Bool.false_ne_true] at e; cases e
      have z := hX x (List.mem_of_getElem? q)
      rw [ne, Bool.false_and, Bool.false_or, Bool.and_eq_true] at z
      have z := z.1
      have ex : (gm K M).xcl c = xC K x := by
        show (M.X[c]?).elim 0 (xC K) = _
        rw [q]; rfl
      rw [ex]
      exact PySem.W.mg_of X G (He.eqO_ok z)
  · have e : ((M.X[c]?).bind fun d => d.fs[i]?) = some t := e
    cases q : M.X[c]? with
    | none => rw [q] at e; cases e
    | some x =>
      rw [q] at e
      have e : x.fs[i]? = some t := e
      have ne : x.fs ≠ [] := fun z => by rw [z] at e; simp at e
      have ne2 : x.fs.isEmpty = false := by
        cases hh : x.fs with
        | nil => exact absurd hh ne
        | cons a l => rfl
      have z := hX x (List.mem_of_getElem? q)
      rw [ne2, Bool.and_false, Bool.false_or, Bool.false_or, Bool.and_eq_true] at z
      have z := z.2
      have e3 : (M.X.map fun x => if x.fs.isEmpty then none else some (initW K (xF K x)))[c]? = (M.X.map fun x => if x.fs.isEmpty then none else some (xVal x))[c]? := by rw [c3]
      rw [List.getElem?_map, List.getElem?_map, q, Option.map_some, Option.map_some, ne2] at e3
      have e4 : initW K (xF K x) = xVal x := Option.some.inj (Option.some.inj e3)
      obtain ⟨t1, t2⟩ := hx c x q ne
      have ex : (gm K M).xcl c = xC K x := by
        show (M.X[c]?).elim 0 (xC K) = _
        rw [q]; rfl
      have ef : (gm K M).xfn c = x.fs.map mkS := by
        show (M.X[c]?).elim [] (fun x => x.fs.map mkS) = _
        rw [q]; rfl
      rw [ex, ef]
      refine ⟨xok_of t1 z e4 t2, fun j => ?_⟩
      show ((M.X[c]?).bind fun d => d.fs[j]?).map mkS = _
      rw [q, List.getElem?_map]
      rfl
  · have z := hs _ (sub_mem e)
    exact of_decide_eq_true z
end
end PF
set_option Elab.async false
set_option linter.all false
set_option maxRecDepth 100000
set_option maxHeartbeats 2000000
/-! PF, part r3: a law. -/
namespace PF
open PySem PySem.Spec PyProof.Rows
open L2 (V Hp HO upd upd_same upd_ne Same SqL SqT VK CXT)
/-- the script alone is tracked -/
theorem law_callG {Pr : Program} {w : World} {K : PySem.W.Frag} {mg mb : Str → Option Value} {CX : CXT} {k : Nat} {fa a : Addr} {fd : FuncData} {x : Str} {sp : L2.Sp} {s1 : Shared} {vs : List Value} {ns : List Int} (KX : K.In s1.heap) (hns : s1.heap.Ns mainGlobals mg) (hb : s1.heap.Ns builtinsNs mb)
    (hbb : ∀ x : Str, x ≠ "__name__" → mb x = bootBuiltins x) (lim : s1.heap.NoLimit) (hg : s1.gens = #[]) (ha : s1.heap.get? a = some { cls := .type "list", data := .seq vs.toArray }) (hi : IntsAre vs ns) (hl : ns.length ≤ sizeLine) (hr : L2.Room k callerA)
    (F : ∀ base : Heap, FnG Pr w K mg base CX k fa fd [x] sp) (hbind : ∀ (s : Shared) (u : Value), BindsTo s fd ⟨[u], []⟩ [(x, u)]) (hsp : ∀ H : Hp, SqL K H a (ns.map V.int) → sp [.ref a] H (fun v _ => v = .bl true) fun _ _ _ => False) (hCX : ∀ H e s', CX [] H s1 (fun _ _ _ => False) e s' → False) :
    codeAny (model Pr w) callerA (.call (.ref fa) ⟨[.ref a], []⟩) (fun r s' => r = .ok (.ret (.bool true)) ∧ OldK s1.heap s'.heap ∧ s'.os = s1.os ∧ AllBare s'.gens) s1 := by
  have rv := L2.vals_ints hi
  have lenV := hi.length
  have core : ∀ H : Hp, (∀ b, H b = none ∨ ∃ o xs, H b = some (.frz o (.lst xs))) → SqL K H a (ns.map V.int) → L2.HOk Pr w H s1.heap → (∀ b, H b ≠ none → b = a) → (H a ≠ none → K.lookup a = none) →
      codeAny (model Pr w) callerA (.call (.ref fa) ⟨[.ref a], []⟩) (fun r s' => r = .ok (.ret (.bool true)) ∧ OldK s1.heap s'.heap ∧ s'.os = s1.os ∧ AllBare s'.gens) s1 := by
    intro H hO hS hok hA hK
    have noA : ∀ {b : Addr} {o : Obj} {es : Array DictEntry} {ep : Nat}, s1.heap.get? b = some o → o.data = .dict es ep → H b = none := fun {b o es ep} e d => by
      cases q : H b with
      | none => rfl
      | some u =>
        have e2 := hA b (by rw [q]; simp)
        rw [e2, ha] at e
        cases e
        cases d
    have nsK : ∀ {b : Addr} {m : Str → Option Value}, s1.heap.Ns b m → (L2.hidT s1.heap H).Ns b m := fun {b m} ⟨o, es, ep, e, d, r⟩ => ⟨o, es, ep, L2.hidT_get e (noA e d), d, r⟩
    have kin : K.In (L2.hidT s1.heap H) := fun b o e => L2.hidT_get (KX b o e) (by
      cases q : H b with
      | none => rfl
      | some u =>
        have e2 := hA b (by rw [q]; simp)
        subst e2
        rw [hK (by rw [q]; simp)] at e
        cases e)
    have md : L2.Mod K mg (L2.hidT s1.heap H) := ⟨kin, nsK hns, ⟨mb, nsK hb, hbb⟩, let ⟨mc, h1, h2⟩ := lim; ⟨mc, nsK h1, h2⟩⟩
    have en : L2.Env0 Pr w K mg (L2.hidT s1.heap H) callerA [] s1 H := ⟨rfl, md, fun b o e => L2.of_hidT e, Nat.le_of_eq (L2.hidT_size _ _), trivial, fun b hb => absurd (show b ∈ ([] : List Addr) from hb) (by simp), hok, .of_eq hg⟩
    refine codeAny_mono ((F _).run callerA [] s1 H ⟨[.ref a], []⟩ [.ref a] [.ref a] _ _ rfl hr en (hbind s1 (.ref a)) (.cons rfl .nil) (hsp H hS)) fun r s2 z => ?_
    cases r with
    | error e => exact (hCX H e s2 z).elim
    | ok fl => cases fl with
      | ret u =>
        obtain ⟨v, H2, os, bare, un, hok2, rr, q⟩ := z
        obtain rfl : v = .bl true := q
        obtain rfl : u = Value.bool true := rr
        have key : ∀ b o, s1.heap.get? b = some o → s2.heap.get? b = some o := fun b o e => by
          rcases hO b with q | ⟨ob, xs, q⟩
          · exact un.keep b o e q (fun z => absurd (show b ∈ ([] : List Addr) from z) (by simp)) (by simp)
          · obtain ⟨e1, _⟩ := hok b _ q
            obtain ⟨e2, _⟩ := hok2 b _ (un.frzs b ob _ q)
            rw [e] at e1; cases e1
            exact e2
        exact ⟨rfl, ⟨fun b o e => .inl (key b o e), fun b o e => ⟨o, key b o e⟩⟩, os, bare⟩
      | _ => exact False.elim z
  cases hk : K.lookup a with
  | some o =>
    have e := KX a o hk
    rw [ha] at e
    cases e
    exact core (fun _ => none) (fun b => .inl rfl) (.inr ⟨_, vs.toArray, _, hk, rfl, rfl, rfl, by rw [List.size_toArray, lenV]; exact hl, by simpa using rv⟩) (fun b u z => by cases z) (fun b z => absurd rfl z) fun z => absurd rfl z
  | none =>
    refine core (fun b => if b = a then some (.frz { cls := .type "list", data := .seq vs.toArray } (.lst (ns.map V.int))) else none) (fun b => ?_) (.inl (.inr ⟨{ cls := .type "list", data := .seq vs.toArray }, if_pos rfl⟩)) (fun b u z => ?_) (fun b z => ?_) fun _ => hk
    · by_cases hb : b = a
      · exact .inr ⟨_, _, if_pos hb⟩
      · exact .inl (if_neg hb)
    · by_cases hb : b = a
      · have z' := (if_pos hb).symm.trans z
        cases z'
        rw [hb]
        exact ⟨ha, by rw [List.length_map]; exact hl, vs, _, rv, ha⟩
      · have z' := (if_neg hb).symm.trans z
        cases z'
    · by_cases hb : b = a
      · exact hb
      · exact absurd (if_neg hb) z
/-- what is known of the law's promise at the head's heap -/
def LawG (l : PySem.W.OpenLaw) (w : World) (K : PySem.W.Frag) (k : Nat) (x : Str) (fa : Addr) : Prop :=
  ∃ (fd : FuncData) (sp : L2.Sp), (∀ (s : Shared) (u : Value), BindsTo s fd ⟨[u], []⟩ [(x, u)]) ∧
    (∀ (H : Hp) (a : Addr) (ns : List Int), ns.length ≤ 63 → (∀ z ∈ ns, Builtin.Int.intBits z ≤ 1048576) → SqL K H a (ns.map V.int) → sp [.ref a] H (fun v _ => v = .bl true) fun _ _ _ => False) ∧ ∀ (mg : Str → Option Value) (h : Heap), K.In h → h.Ns mainGlobals mg → ∀ base : Heap, FnG l.prog w K mg base (L2.CX l.prog w) k fa fd [x] sp
theorem cx_no {Pr : Program} {w : World} (H : Hp) (s : Shared) (e : Value) (s' : Shared) (h : L2.CX Pr w [] H s (fun _ _ _ => False) e s') : False := by
  obtain ⟨_, _, _, _, _, _, _, _, _, _, _, _, z⟩ := h
  exact z.elim
theorem walkG {l : PySem.W.OpenLaw} {k : Nat} {q : Program} {loose : List Str} {XP : (Str → Option Value) → Heap → Prop} {YP : World → Heap → Prop} {d : DefRec} {x : Str} (hn : l.most = some 63) (hdf : d.params.defaults = []) (hr : L2.Room k callerA)
    (F : ∀ (w : World) (mg : Str → Option Value) (fa : Addr) (h : Heap), YP w h → h.Ns mainGlobals mg → mg d.name = some (.ref fa) → ∃ K : PySem.W.Frag, K.In h ∧ LawG l w K k x fa) : PySem.W.WalkO q loose XP YP l.row.toRowW d [] (fun f vs => PySem.call f vs) := by
  refine Att.attach_callB hn hdf fun w s₀ s₁ mg mb fa o pm cd doc a vs ns G Y ho hd hcd hmg hobj hints hlen hbits hg => ?_
  obtain ⟨K, KX, fd, sp, hb, hsp, hF⟩ := F w mg fa _ Y G.T.g hmg
  exact law_callG KX G.T.g G.T.b G.T.builtins G.T.nolimit hg hobj hints (Nat.le_trans hlen (by decide)) hr (hF mg _ KX G.T.g) hb (fun H hS => hsp H a ns hlen hbits hS) fun H e s' => cx_no H s₁ e s'
/-- from what the own text computes -/
theorem lawG_of {M : Md} {K : PySem.W.Frag} {h : Heap} {mg : Str → Option Value} {n li : Nat} {d : Dn} {l : PySem.W.OpenLaw} {w : World} {t : Tx} {r : List Tx} (X : K.In h) (G : h.Ns mainGlobals mg) (c : obsM M l.prog K = valM M)
    (hx : ∀ (c : Nat) (x : Xn), M.X[c]? = some x → x.fs ≠ [] → xTxtB l.prog x = true ∧ BindX x) (hP : ∀ (i : Nat) (d : Dn), M.P[i]? = some d → d.on = true → defOk (gnOf M) d = true ∧ BindOk d)
    (hd : M.P[li]? = some d) (ho : d.on = true) (hc : d.cl = none) (hdf : d.fn.dfl = []) (hp : d.fn.np = 1) (hnm : d.fn.nm = t :: r) {fa : Addr} (hfa : mg (mkS d.nm) = some (.ref fa))
    (hlaw : ∀ ns : List Int, ns.length ≤ 63 → (∀ z, z ∈ ns → Builtin.Int.intBits z ≤ 1048576) → ∃ outs, callD (progOf M) (tbOf M) n li [.sh (.frz (ns.map PV.int))] = .ok (.sh (.bl true)) outs) : LawG l w K (3 * n) (mkS t) fa := by
  have F := fx_of X G c hx
  obtain ⟨fd, dvs, FD, rd, hm⟩ := F.def_ li d hd ho
  have hm := hm hc
  rw [hm] at hfa
  have ef : (gm K M).fa li = fa := by
    have := Option.some.inj hfa
    exact Value.ref.inj this
  have eN : (d.fn.nm.map mkS).take d.fn.np = [mkS t] := by rw [hnm, hp]; rfl
  have dv0 : dvs = [] := by
    have := rd (fun _ => none)
    rw [hdf] at this
    exact this
  subst dv0
  refine ⟨fd, SpF (gm K M) (gamma M n) li, fun s u => ?_, fun H a ns hl hbits hS => ?_, fun mg2 h2 X2 G2 base => ?_⟩
  · have z := L2.FunD.bindsA (ps := [mkS t]) FD (fun kV doc pm an cdv ct us hu => by
      have q := (hP li d hd ho).2.1 hdf (mkS d.nm) (mkS d.qual) (L2.defBody d.st) (L2.defScope d.st) kV doc pm an cdv ct us (by rw [hp]; exact hu)
      rw [eN] at q
      exact q) s [u] rfl
    exact z
  · have reps : Reps (gm K M) H (ns.map PV.int) (ns.map V.int) := by
      clear hl hS hlaw hbits
      induction ns with
      | nil => rfl
      | cons i ns ih => exact Reps.cons rep_int ih
    refine ⟨H, [.sh (.frz (ns.map PV.int))], cons1 none_ (fun _ => none_), RS.cons (P := none_) ⟨fun _ z => z, .ref a, rfl, a, _, rfl, hS, reps⟩ (RS.nilS (Same.refl H)) fun _ z => z.elim, ?_⟩
    obtain ⟨outs, e⟩ := hlaw ns hl hbits
    have e : (gamma M n).rho li [.sh (.frz (ns.map PV.int))] = .ok (.sh (.bl true)) outs := e
    rw [e]
    intro G' H' F' P' b t R d q
    obtain ⟨_, x, ex, r⟩ := q
    cases ex
    exact r
  · have z := fns_ok (Pr := l.prog) (w := w) (base := base) (fx_of X2 G2 c hx) hP n li d fd [] hd ho FD
    rw [eN, ef] at z
    exact z
end PF
set_option Elab.async false
set_option linter.all false
set_option maxRecDepth 100000
/-! PP: the own text of the package. -/
namespace PF.Lib
open PF
def f0_is_integer : Fn := ⟨[[118, 97, 108, 117, 101]], 1, [],
  (.cons (.ret (.and (.isi (.var 0) [.int] false) (.not (.isi (.var 0) [.bool] false))))
  .nil), []⟩
def f1_is_count : Fn := ⟨[[118, 97, 108, 117, 101]], 1, [],
  (.cons (.ret (.and (.call 0 (.cons (.var 0) .nil)) (.cmp .ge (.var 0) (.int 0))))
  .nil), []⟩
def f2_is_line : Fn := ⟨[[118, 97, 108, 117, 101], [99, 111, 108, 111, 117, 114]], 1, [],
  (.cons (.ret (.and (.isi (.var 0) [.list, .tuple] true) (.and (.cmp .gt (.bi .len (.cons (.var 0) .nil)) (.int 0)) (.bi .all (.cons (.comp (.call 1 (.cons (.var 1) .nil)) (.v 1) (.seq (.var 0)) [1]) .nil)))))
  .nil), []⟩
def f3_are_rows : Fn := ⟨[[118, 97, 108, 117, 101], [114, 111, 119]], 1, [],
  (.cons (.ifs (.or (.not (.isi (.var 0) [.list, .tuple] true)) (.cmp .eq (.bi .len (.cons (.var 0) .nil)) (.int 0)))
  (.cons (.ret (.bl false))
  .nil)
  .nil)
  (.cons (.ret (.and (.bi .all (.cons (.comp (.call 2 (.cons (.var 1) .nil)) (.v 1) (.seq (.var 0)) [1]) .nil)) (.bi .all (.cons (.comp (.cmp .eq (.bi .len (.cons (.var 1) .nil)) (.bi .len (.cons (.ix (.var 0) (.int 0)) .nil))) (.v 1) (.seq (.var 0)) [1]) .nil))))
  .nil)), []⟩
def f4_Picture___init : Fn := ⟨[[115, 101, 108, 102], [114, 111, 119, 115], [114, 111, 119]], 2, [0],
  (.cons (.ifs (.not (.call 3 (.cons (.var 1) .nil)))
  (.cons (.raise 1 (.cons (.var 1) .nil))
  .nil)
  .nil)
  (.cons (.setFld 0 0 0 (.bi .tuple (.cons (.comp (.bi .tuple (.cons (.var 2) .nil)) (.v 2) (.seq (.var 1)) [2]) .nil)))
  .nil)), []⟩
def f5_Picture_rows : Fn := ⟨[[115, 101, 108, 102]], 1, [],
  (.cons (.ret (.fld 0 0 (.var 0)))
  .nil), []⟩
def f6_Picture_height : Fn := ⟨[[115, 101, 108, 102]], 1, [],
  (.cons (.ret (.bi .len (.cons (.fld 0 0 (.var 0)) .nil)))
  .nil), []⟩
def f7_Picture_width : Fn := ⟨[[115, 101, 108, 102]], 1, [],
  (.cons (.ret (.bi .len (.cons (.ix (.fld 0 0 (.var 0)) (.int 0)) .nil)))
  .nil), []⟩
def f13_is_side : Fn := ⟨[[118, 97, 108, 117, 101]], 1, [],
  (.cons (.ret (.and (.isi (.var 0) [.str] false) (.inn false (.var 0) (.glb 0))))
  .nil), []⟩
def f14_check_colour : Fn := ⟨[[118, 97, 108, 117, 101]], 1, [],
  (.cons (.ifs (.not (.call 1 (.cons (.var 0) .nil)))
  (.cons (.raise 3 (.cons (.var 0) .nil))
  .nil)
  .nil)
  .nil), []⟩
def f15_check_side : Fn := ⟨[[118, 97, 108, 117, 101]], 1, [],
  (.cons (.ifs (.not (.call 13 (.cons (.var 0) .nil)))
  (.cons (.raise 4 (.cons (.var 0) .nil))
  .nil)
  .nil)
  .nil), []⟩
def f16_check_count : Fn := ⟨[[118, 97, 108, 117, 101], [108, 101, 97, 115, 116]], 2, [],
  (.cons (.ifs (.or (.not (.call 0 (.cons (.var 0) .nil))) (.cmp .lt (.var 0) (.var 1)))
  (.cons (.raise 5 (.cons (.var 0) .nil))
  .nil)
  .nil)
  .nil), [(.int 0)]⟩
def f17_Picture_filled : Fn := ⟨[[99, 108, 115], [104, 101, 105, 103, 104, 116], [119, 105, 100, 116, 104], [99, 111, 108, 111, 117, 114], [114, 111, 119]], 4, [],
  (.cons (.expr (.call 16 (.cons (.var 1) (.cons (.int 1) .nil))))
  (.cons (.expr (.call 16 (.cons (.var 2) (.cons (.int 1) .nil))))
  (.cons (.expr (.call 14 (.cons (.var 3) .nil)))
  (.cons (.ret (.ext (.newK 0 4 0 0) (.cons (.comp (.bin .mul (.lst (.cons (.var 3) .nil)) (.var 2)) (.v 4) (.rng (.var 1)) [4]) .nil)))
  .nil)))), []⟩
def f18_Picture_numbered : Fn := ⟨[[99, 108, 115], [104, 101, 105, 103, 104, 116], [119, 105, 100, 116, 104], [102, 105, 114, 115, 116], [114, 111, 119], [99, 111, 108, 117, 109, 110]], 4, [],
  (.cons (.expr (.call 16 (.cons (.var 1) (.cons (.int 1) .nil))))
  (.cons (.expr (.call 16 (.cons (.var 2) (.cons (.int 1) .nil))))
  (.cons (.expr (.call 14 (.cons (.var 3) .nil)))
  (.cons (.ret (.ext (.newK 0 4 0 0) (.cons (.comp (.comp (.bin .add (.bin .add (.var 3) (.bin .mul (.var 4) (.var 2))) (.var 5)) (.v 5) (.rng (.var 2)) [5]) (.v 4) (.rng (.var 1)) [4]) .nil)))
  .nil)))), []⟩
def f19_Picture_line : Fn := ⟨[[115, 101, 108, 102], [115, 105, 100, 101], [114, 111, 119]], 2, [],
  (.cons (.expr (.call 15 (.cons (.var 1) .nil)))
  (.cons (.ifs (.cmp .eq (.var 1) (.str [116, 111, 112]))
  (.cons (.ret (.ix (.fld 0 0 (.var 0)) (.int 0)))
  .nil)
  .nil)
  (.cons (.ifs (.cmp .eq (.var 1) (.str [98, 111, 116, 116, 111, 109]))
  (.cons (.ret (.ix (.fld 0 0 (.var 0)) (.neg (.int 1))))
  .nil)
  .nil)
  (.cons (.ret (.bi .tuple (.cons (.comp (.ite (.cmp .eq (.var 1) (.str [108, 101, 102, 116])) (.ix (.var 2) (.int 0)) (.ix (.var 2) (.neg (.int 1)))) (.v 2) (.seq (.fld 0 0 (.var 0))) [2]) .nil)))
  .nil)))), []⟩
def f20_Picture_turned : Fn := ⟨[[115, 101, 108, 102], [99, 111, 108, 117, 109, 110], [114, 111, 119]], 1, [],
  (.cons (.ret (.ext (.new 4 0 0) (.cons (.comp (.comp (.ix (.var 2) (.var 1)) (.v 2) (.seq (.rev (.fld 0 0 (.var 0)))) [2]) (.v 1) (.rng (.prop 7 0 (.var 0))) [1]) .nil)))
  .nil), []⟩
def f21_Picture_mirrored : Fn := ⟨[[115, 101, 108, 102], [114, 111, 119]], 1, [],
  (.cons (.ret (.ext (.new 4 0 0) (.cons (.comp (.rev (.var 1)) (.v 1) (.seq (.fld 0 0 (.var 0))) [1]) .nil)))
  .nil), []⟩
def f22_Picture_cut : Fn := ⟨[[115, 101, 108, 102], [115, 105, 100, 101], [114, 111, 119]], 2, [],
  (.cons (.expr (.call 15 (.cons (.var 1) .nil)))
  (.cons (.ifs (.cmp .eq (.ite (.inn false (.var 1) (.tup (.cons (.str [116, 111, 112]) (.cons (.str [98, 111, 116, 116, 111, 109]) .nil)))) (.prop 6 0 (.var 0)) (.prop 7 0 (.var 0))) (.int 1))
  (.cons (.raise 6 (.cons (.int 0) .nil))
  .nil)
  .nil)
  (.cons (.ifs (.cmp .eq (.var 1) (.str [116, 111, 112]))
  (.cons (.ret (.ext (.new 4 0 0) (.cons (.sl (.fld 0 0 (.var 0)) (.yes (.int 1)) .no) .nil)))
  .nil)
  .nil)
  (.cons (.ifs (.cmp .eq (.var 1) (.str [98, 111, 116, 116, 111, 109]))
  (.cons (.ret (.ext (.new 4 0 0) (.cons (.sl (.fld 0 0 (.var 0)) .no (.yes (.neg (.int 1)))) .nil)))
  .nil)
  .nil)
  (.cons (.ret (.ext (.new 4 0 0) (.cons (.comp (.ite (.cmp .eq (.var 1) (.str [108, 101, 102, 116])) (.sl (.var 2) (.yes (.int 1)) .no) (.sl (.var 2) .no (.yes (.neg (.int 1))))) (.v 2) (.seq (.fld 0 0 (.var 0))) [2]) .nil)))
  .nil))))), []⟩
def f23_Picture_added : Fn := ⟨[[115, 101, 108, 102], [115, 105, 100, 101], [99, 111, 108, 111, 117, 114], [114, 111, 119], [111, 108, 100]], 3, [],
  (.cons (.expr (.call 15 (.cons (.var 1) .nil)))
  (.cons (.expr (.call 14 (.cons (.var 2) .nil)))
  (.cons (.set (.v 3) (.bin .mul (.tup (.cons (.var 2) .nil)) (.prop 7 0 (.var 0))))
  (.cons (.ifs (.cmp .eq (.var 1) (.str [116, 111, 112]))
  (.cons (.ret (.ext (.new 4 0 0) (.cons (.bin .add (.tup (.cons (.var 3) .nil)) (.fld 0 0 (.var 0))) .nil)))
  .nil)
  .nil)
  (.cons (.ifs (.cmp .eq (.var 1) (.str [98, 111, 116, 116, 111, 109]))
  (.cons (.ret (.ext (.new 4 0 0) (.cons (.bin .add (.fld 0 0 (.var 0)) (.tup (.cons (.var 3) .nil))) .nil)))
  .nil)
  .nil)
  (.cons (.ifs (.cmp .eq (.var 1) (.str [108, 101, 102, 116]))
  (.cons (.ret (.ext (.new 4 0 0) (.cons (.comp (.bin .add (.tup (.cons (.var 2) .nil)) (.var 4)) (.v 4) (.seq (.fld 0 0 (.var 0))) [4]) .nil)))
  .nil)
  .nil)
  (.cons (.ret (.ext (.new 4 0 0) (.cons (.comp (.bin .add (.var 4) (.tup (.cons (.var 2) .nil))) (.v 4) (.seq (.fld 0 0 (.var 0))) [4]) .nil)))
  .nil))))))), []⟩
def f24_check_picture : Fn := ⟨[[118, 97, 108, 117, 101]], 1, [],
  (.cons (.ifs (.not (.isi (.var 0) [.cls 0] false))
  (.cons (.raise 1 (.cons (.var 0) .nil))
  .nil)
  .nil)
  .nil), []⟩
def f25_Symmetry___init : Fn := ⟨[[115, 101, 108, 102], [116, 117, 114, 110, 115], [109, 105, 114, 114, 111, 114, 115]], 3, [0],
  (.cons (.ifs (.or (.not (.call 1 (.cons (.var 1) .nil))) (.cmp .gt (.var 1) (.int 3)))
  (.cons (.raise 8 (.cons (.var 1) .nil))
  .nil)
  .nil)
  (.cons (.ifs (.not (.isi (.var 2) [.bool] false))
  (.cons (.raise 8 (.cons (.var 2) .nil))
  .nil)
  .nil)
  (.cons (.setFld 1 0 0 (.var 1))
  (.cons (.setFld 1 0 1 (.var 2))
  .nil)))), [(.int 0), (.bl false)]⟩
def f27_Symmetry_turns : Fn := ⟨[[115, 101, 108, 102]], 1, [],
  (.cons (.ret (.fld 1 0 (.var 0)))
  .nil), []⟩
def f28_Symmetry_mirrors : Fn := ⟨[[115, 101, 108, 102]], 1, [],
  (.cons (.ret (.fld 1 1 (.var 0)))
  .nil), []⟩
def f30_Symmetry_inverse : Fn := ⟨[[115, 101, 108, 102]], 1, [],
  (.cons (.ret (.ext (.new 25 1 0) (.cons (.ite (.fld 1 1 (.var 0)) (.fld 1 0 (.var 0)) (.bin .mod (.neg (.fld 1 0 (.var 0))) (.int 4))) (.cons (.fld 1 1 (.var 0)) .nil))))
  .nil), []⟩
def f33_Symmetry_apply : Fn := ⟨[[115, 101, 108, 102], [112, 105, 99, 116, 117, 114, 101], [114, 101, 115, 117, 108, 116], [116, 117, 114, 110]], 2, [],
  (.cons (.expr (.call 24 (.cons (.var 1) .nil)))
  (.cons (.set (.v 2) (.ite (.fld 1 1 (.var 0)) (.meth 21 0 0 (.var 1) .nil) (.var 1)))
  (.cons (.for_ (.v 3) (.rng (.fld 1 0 (.var 0)))
  (.cons (.set (.v 2) (.meth 20 0 0 (.var 2) .nil))
  .nil))
  (.cons (.ret (.var 2))
  .nil)))), []⟩
def f36_is_step : Fn := ⟨[[118, 97, 108, 117, 101], [119, 111, 114, 100], [115, 105, 100, 101], [99, 111, 108, 111, 117, 114]], 1, [],
  (.cons (.ifs (.not (.isi (.var 0) [.tuple] false))
  (.cons (.ret (.bl false))
  .nil)
  .nil)
  (.cons (.mtch (.var 0) (.seq [1] (.inn false (.var 1) (.tup (.cons (.str [116, 117, 114, 110]) (.cons (.str [109, 105, 114, 114, 111, 114]) .nil))))
  (.cons (.ret (.bl true))
  .nil)
  (.seq [1, 2] (.cmp .eq (.var 1) (.str [99, 117, 116]))
  (.cons (.ret (.call 13 (.cons (.var 2) .nil)))
  .nil)
  (.seq [1, 2, 3] (.cmp .eq (.var 1) (.str [97, 100, 100]))
  (.cons (.ret (.and (.call 13 (.cons (.var 2) .nil)) (.call 1 (.cons (.var 3) .nil))))
  .nil)
  (.all (.cons (.ret (.bl false))
  .nil))))))
  .nil)), []⟩
def f37_check_steps : Fn := ⟨[[115, 116, 101, 112, 115], [105, 110, 100, 101, 120], [115, 116, 101, 112]], 1, [],
  (.cons (.ifs (.or (.not (.isi (.var 0) [.list, .tuple] true)) (.cmp .gt (.bi .len (.cons (.var 0) .nil)) (.glb 2)))
  (.cons (.raise 7 (.cons .non .nil))
  .nil)
  .nil)
  (.cons (.for_ (.t (.cons (.v 1) (.cons (.v 2) .nil))) (.enum (.var 0))
  (.cons (.ifs (.not (.call 36 (.cons (.var 2) .nil)))
  (.cons (.raise 7 (.cons (.var 1) .nil))
  .nil)
  .nil)
  .nil))
  .nil)), []⟩
def f38_after_step : Fn := ⟨[[112, 105, 99, 116, 117, 114, 101], [115, 116, 101, 112]], 2, [],
  (.cons (.ifs (.cmp .eq (.ix (.var 1) (.int 0)) (.str [116, 117, 114, 110]))
  (.cons (.ret (.meth 20 0 0 (.var 0) .nil))
  .nil)
  .nil)
  (.cons (.ifs (.cmp .eq (.ix (.var 1) (.int 0)) (.str [109, 105, 114, 114, 111, 114]))
  (.cons (.ret (.meth 21 0 0 (.var 0) .nil))
  .nil)
  .nil)
  (.cons (.ifs (.cmp .eq (.ix (.var 1) (.int 0)) (.str [99, 117, 116]))
  (.cons (.ret (.meth 22 0 0 (.var 0) (.cons (.ix (.var 1) (.int 1)) .nil)))
  .nil)
  .nil)
  (.cons (.ret (.meth 23 0 0 (.var 0) (.cons (.ix (.var 1) (.int 1)) (.cons (.ix (.var 1) (.int 2)) .nil))))
  .nil)))), []⟩
def f39_is_last : Fn := ⟨[[112, 105, 99, 116, 117, 114, 101], [115, 116, 101, 112]], 2, [],
  (.cons (.ifs (.cmp .ne (.ix (.var 1) (.int 0)) (.str [99, 117, 116]))
  (.cons (.ret (.bl false))
  .nil)
  .nil)
  (.cons (.ret (.cmp .eq (.ite (.inn false (.ix (.var 1) (.int 1)) (.tup (.cons (.str [116, 111, 112]) (.cons (.str [98, 111, 116, 116, 111, 109]) .nil)))) (.prop 6 0 (.var 0)) (.prop 7 0 (.var 0))) (.int 1)))
  .nil)), []⟩
def f42_check_symmetry : Fn := ⟨[[118, 97, 108, 117, 101]], 1, [],
  (.cons (.ifs (.not (.isi (.var 0) [.cls 1] false))
  (.cons (.raise 8 (.cons (.var 0) .nil))
  .nil)
  .nil)
  .nil), []⟩
def f43_is_frame_line : Fn := ⟨[[118, 97, 108, 117, 101]], 1, [],
  (.cons (.ret (.and (.isi (.var 0) [.tuple] false) (.and (.cmp .eq (.bi .len (.cons (.var 0) .nil)) (.int 2)) (.and (.call 13 (.cons (.ix (.var 0) (.int 0)) .nil)) (.call 1 (.cons (.ix (.var 0) (.int 1)) .nil))))))
  .nil), []⟩
def f44_check_lines : Fn := ⟨[[108, 105, 110, 101, 115], [105, 110, 100, 101, 120], [108, 105, 110, 101]], 1, [],
  (.cons (.ifs (.or (.not (.isi (.var 0) [.list, .tuple] true)) (.cmp .gt (.bi .len (.cons (.var 0) .nil)) (.glb 3)))
  (.cons (.raise 9 (.cons .non .nil))
  .nil)
  .nil)
  (.cons (.for_ (.t (.cons (.v 1) (.cons (.v 2) .nil))) (.enum (.var 0))
  (.cons (.ifs (.not (.call 43 (.cons (.var 2) .nil)))
  (.cons (.raise 9 (.cons (.var 1) .nil))
  .nil)
  .nil)
  .nil))
  .nil)), []⟩
def f46_first_lines : Fn := ⟨[[108, 105, 110, 101, 115], [102, 111, 117, 110, 100], [115, 105, 100, 101], [112, 108, 97, 99, 101, 115], [105, 110, 100, 101, 120], [108, 105, 110, 101]], 1, [],
  (.cons (.set (.v 1) (.lst .nil))
  (.cons (.for_ (.v 2) (.seq (.glb 0))
  (.cons (.set (.v 3) (.compIf (.var 4) (.t (.cons (.v 4) (.cons (.v 5) .nil))) (.enum (.var 0)) (.cmp .eq (.ix (.var 5) (.int 0)) (.var 2)) [4, 5]))
  (.cons (.ifs (.and (.cmp .ne (.var 3) (.lst .nil)) (.not (.bi .any (.cons (.comp (.call 45 (.cons (.ix (.var 0) (.ix (.var 3) (.int 0))) (.cons (.var 5) .nil))) (.v 5) (.seq (.sl (.var 0) .no (.yes (.ix (.var 3) (.int 0))))) [5]) .nil))))
  (.cons (.app 1 (.ix (.var 3) (.int 0)))
  .nil)
  .nil)
  .nil)))
  (.cons (.ret (.var 1))
  .nil))), []⟩
def f47_least_order : Fn := ⟨[[108, 105, 110, 101, 115], [108, 101, 102, 116], [114, 101, 115, 117, 108, 116]], 1, [],
  (.cons (.par2 1 2 (.bi .list (.cons (.var 0) .nil)) (.lst .nil))
  (.cons (.while_ (.cmp .ne (.var 1) (.lst .nil))
  (.cons (.app 2 (.pop 1 (.yes (.ix (.call 46 (.cons (.var 1) .nil)) (.int 0)))))
  .nil))
  (.cons (.ret (.var 2))
  .nil))), []⟩
def f48_without : Fn := ⟨[[108, 105, 110, 101, 115], [105, 110, 100, 101, 120]], 2, [],
  (.cons (.ret (.bin .add (.sl (.var 0) .no (.yes (.var 1))) (.sl (.var 0) (.yes (.bin .add (.var 1) (.int 1))) .no)))
  .nil), []⟩
def f52_Frame___init : Fn := ⟨[[115, 101, 108, 102], [108, 105, 110, 101, 115]], 2, [0],
  (.cons (.expr (.call 44 (.cons (.var 1) .nil)))
  (.cons (.setFld 2 0 0 (.call 47 (.cons (.var 1) .nil)))
  .nil)), []⟩
def f53_Frame_around : Fn := ⟨[[112, 105, 99, 116, 117, 114, 101], [114, 111, 119], [99, 111, 108, 117, 109, 110], [104, 101, 105, 103, 104, 116], [119, 105, 100, 116, 104], [118, 97, 108, 117, 101, 115], [108, 105, 110, 101, 115], [118, 97, 108, 117, 101]], 5, [],
  (.cons (.expr (.call 24 (.cons (.var 0) .nil)))
  (.cons (.set (.v 5) (.tup (.cons (.var 1) (.cons (.var 2) (.cons (.var 3) (.cons (.var 4) .nil))))))
  (.cons (.ifs (.or (.not (.bi .all (.cons (.comp (.call 1 (.cons (.var 7) .nil)) (.v 7) (.seq (.var 5)) [7]) .nil))) (.or (.cmp .lt (.var 3) (.int 1)) (.cmp .lt (.var 4) (.int 1))))
  (.cons (.raise 2 (.cons (.var 5) .nil))
  .nil)
  .nil)
  (.cons (.ifs (.or (.cmp .gt (.bin .add (.var 1) (.var 3)) (.prop 6 0 (.var 0))) (.cmp .gt (.bin .add (.var 2) (.var 4)) (.prop 7 0 (.var 0))))
  (.cons (.raise 2 (.cons (.var 5) .nil))
  .nil)
  .nil)
  (.cons (.set (.v 6) (.call 51 (.cons (.prop 5 0 (.var 0)) (.cons (.tup (.cons (.var 1) (.cons (.bin .sub (.bin .add (.var 2) (.var 4)) (.int 1)) (.cons (.bin .sub (.bin .add (.var 1) (.var 3)) (.int 1)) (.cons (.var 2) .nil))))) .nil))))
  (.cons (.ret (.ite (.isN false (.var 6)) .non (.ext (.new 52 2 0) (.cons (.var 6) .nil))))
  .nil)))))), []⟩
def f54_Frame_colours : Fn := ⟨[[115, 101, 108, 102], [115, 105, 100, 101], [108, 105, 110, 101]], 2, [],
  (.cons (.expr (.call 15 (.cons (.var 1) .nil)))
  (.cons (.ret (.compIf (.ix (.var 2) (.int 1)) (.v 2) (.seq (.fld 2 0 (.var 0))) (.cmp .eq (.ix (.var 2) (.int 0)) (.var 1)) [2]))
  .nil)), []⟩
def f55_Frame_place_of : Fn := ⟨[[115, 101, 108, 102], [110, 117, 109, 98, 101, 114], [98, 101, 102, 111, 114, 101], [97, 102, 116, 101, 114], [115, 105, 100, 101], [112, 108, 97, 99, 101, 115], [105, 110, 100, 101, 120], [108, 105, 110, 101]], 4, [],
  (.cons (.set (.v 4) (.ite (.cmp .lt (.var 1) (.int 0)) (.var 2) (.var 3)))
  (.cons (.set (.v 5) (.compIf (.var 6) (.t (.cons (.v 6) (.cons (.v 7) .nil))) (.enum (.fld 2 0 (.var 0))) (.cmp .eq (.ix (.var 7) (.int 0)) (.var 4)) [6, 7]))
  (.cons (.ret (.ite (.chn .lt .le (.int 0) (.bi .abs (.cons (.var 1) .nil)) (.bi .len (.cons (.var 5) .nil))) (.ix (.var 5) (.bin .sub (.bi .abs (.cons (.var 1) .nil)) (.int 1))) .non))
  .nil))), []⟩
def f57_Frame_order : Fn := ⟨[[115, 101, 108, 102]], 1, [],
  (.cons (.ret (.bi .list (.cons (.fld 2 0 (.var 0)) .nil)))
  .nil), []⟩
def f58_Frame_cut : Fn := ⟨[[115, 101, 108, 102], [115, 105, 100, 101], [112, 108, 97, 99, 101, 115], [105, 110, 100, 101, 120], [108, 105, 110, 101]], 2, [],
  (.cons (.expr (.call 15 (.cons (.var 1) .nil)))
  (.cons (.set (.v 2) (.compIf (.var 3) (.t (.cons (.v 3) (.cons (.v 4) .nil))) (.enum (.fld 2 0 (.var 0))) (.cmp .eq (.ix (.var 4) (.int 0)) (.var 1)) [3, 4]))
  (.cons (.ifs (.cmp .eq (.var 2) (.lst .nil))
  (.cons (.raise 2 (.cons (.var 1) .nil))
  .nil)
  .nil)
  (.cons (.ret (.ext (.new 52 2 0) (.cons (.call 48 (.cons (.fld 2 0 (.var 0)) (.cons (.ix (.var 2) (.neg (.int 1))) .nil))) .nil)))
  .nil)))), []⟩
def f62_check_frame : Fn := ⟨[[118, 97, 108, 117, 101]], 1, [],
  (.cons (.ifs (.not (.isi (.var 0) [.cls 2] false))
  (.cons (.raise 9 (.cons .non .nil))
  .nil)
  .nil)
  .nil), []⟩
def f63_moved_lines : Fn := ⟨[[108, 105, 110, 101, 115], [115, 121, 109, 109, 101, 116, 114, 121], [115, 105, 100, 101], [99, 111, 108, 111, 117, 114]], 2, [],
  (.cons (.ret (.comp (.tup (.cons (.meth 31 1 0 (.var 1) (.cons (.var 2) .nil)) (.cons (.var 3) .nil))) (.t (.cons (.v 2) (.cons (.v 3) .nil))) (.seq (.var 0)) [2, 3]))
  .nil), []⟩
def f64_without_outermost : Fn := ⟨[[108, 105, 110, 101, 115], [115, 105, 100, 101], [99, 111, 117, 110, 116], [112, 108, 97, 99, 101, 115], [108, 101, 102, 116], [109, 105, 115, 115, 105, 110, 103], [105, 110, 100, 101, 120], [108, 105, 110, 101]], 3, [],
  (.cons (.par2 4 5 (.var 0) (.var 2))
  (.cons (.set (.v 3) (.compIf (.var 6) (.t (.cons (.v 6) (.cons (.v 7) .nil))) (.enum (.var 0)) (.cmp .eq (.ix (.var 7) (.int 0)) (.var 1)) [6, 7]))
  (.cons (.while_ (.and (.cmp .ne (.var 3) (.lst .nil)) (.cmp .gt (.var 5) (.int 0)))
  (.cons (.set (.v 4) (.call 48 (.cons (.var 4) (.cons (.pop 3 .no) .nil))))
  (.cons (.aug 5 .sub (.int 1))
  .nil)))
  (.cons (.ret (.tup (.cons (.var 4) (.cons (.var 5) .nil))))
  .nil)))), []⟩
def f66_parts_of : Fn := ⟨[[115, 116, 101, 112, 115], [115, 116, 101, 112], [115, 121, 109, 109, 101, 116, 114, 121], [108, 111, 115, 116], [108, 105, 110, 101, 115], [109, 111, 118, 101], [109, 105, 115, 115, 105, 110, 103]], 1, [],
  (.cons (.par3 2 3 4 (.ext (.new 25 1 2) .nil) (.tup (.cons (.int 0) (.cons (.int 0) (.cons (.int 0) (.cons (.int 0) .nil))))) (.lst .nil))
  (.cons (.for_ (.v 1) (.seq (.var 0))
  (.cons (.ifs (.cmp .eq (.ix (.var 1) (.int 0)) (.str [97, 100, 100]))
  (.cons (.set (.v 4) (.bin .add (.var 4) (.lst (.cons (.tup (.cons (.ix (.var 1) (.int 1)) (.cons (.ix (.var 1) (.int 2)) .nil))) .nil))))
  .nil)
  (.cons (.ifs (.cmp .eq (.ix (.var 1) (.int 0)) (.str [99, 117, 116]))
  (.cons (.set (.t (.cons (.v 4) (.cons (.v 6) .nil))) (.call 64 (.cons (.var 4) (.cons (.ix (.var 1) (.int 1)) (.cons (.int 1) .nil)))))
  (.cons (.set (.v 3) (.call 65 (.cons (.var 3) (.cons (.var 2) (.cons (.ix (.var 1) (.int 1)) (.cons (.var 6) .nil))))))
  .nil))
  (.cons (.set (.v 5) (.ite (.cmp .eq (.ix (.var 1) (.int 0)) (.str [116, 117, 114, 110])) (.ext (.new 25 1 1) (.cons (.int 1) .nil)) (.ext (.new 25 1 0) (.cons (.int 0) (.cons (.bl true) .nil)))))
  (.cons (.set (.v 2) (.bin .mul (.var 2) (.var 5)))
  (.cons (.set (.v 4) (.call 63 (.cons (.var 4) (.cons (.var 5) .nil))))
  .nil))))
  .nil))
  .nil))
  (.cons (.ret (.tup (.cons (.var 2) (.cons (.var 3) (.cons (.var 4) .nil)))))
  .nil))), []⟩
def f67_joined_parts : Fn := ⟨[[102, 105, 114, 115, 116], [115, 101, 99, 111, 110, 100], [115, 121, 109, 109, 101, 116, 114, 121], [108, 111, 115, 116], [108, 105, 110, 101, 115], [115, 105, 100, 101], [99, 111, 117, 110, 116], [109, 105, 115, 115, 105, 110, 103]], 2, [],
  (.cons (.set (.t (.cons (.v 2) (.cons (.v 3) (.cons (.v 4) .nil)))) (.var 0))
  (.cons (.for_ (.t (.cons (.v 5) (.cons (.v 6) .nil))) (.zip (.glb 0) (.ix (.var 1) (.int 1)))
  (.cons (.set (.t (.cons (.v 4) (.cons (.v 7) .nil))) (.call 64 (.cons (.var 4) (.cons (.var 5) (.cons (.var 6) .nil)))))
  (.cons (.set (.v 3) (.call 65 (.cons (.var 3) (.cons (.var 2) (.cons (.var 5) (.cons (.var 7) .nil))))))
  .nil)))
  (.cons (.ret (.tup (.cons (.bin .mul (.var 2) (.ix (.var 1) (.int 0))) (.cons (.var 3) (.cons (.call 47 (.cons (.bin .add (.call 63 (.cons (.var 4) (.cons (.ix (.var 1) (.int 0)) .nil))) (.ix (.var 1) (.int 2))) .nil)) .nil)))))
  .nil))), []⟩
def f68_are_lost : Fn := ⟨[[118, 97, 108, 117, 101], [99, 111, 117, 110, 116]], 1, [],
  (.cons (.ret (.and (.isi (.var 0) [.tuple] false) (.and (.cmp .eq (.bi .len (.cons (.var 0) .nil)) (.int 4)) (.bi .all (.cons (.comp (.call 1 (.cons (.var 1) .nil)) (.v 1) (.seq (.var 0)) [1]) .nil)))))
  .nil), []⟩
def f69_Effect___init : Fn := ⟨[[115, 101, 108, 102], [115, 121, 109, 109, 101, 116, 114, 121], [108, 111, 115, 116], [102, 114, 97, 109, 101]], 4, [0],
  (.cons (.expr (.call 42 (.cons (.var 1) .nil)))
  (.cons (.ifs (.not (.call 68 (.cons (.var 2) .nil)))
  (.cons (.raise 10 (.cons (.var 2) .nil))
  .nil)
  .nil)
  (.cons (.expr (.call 62 (.cons (.var 3) .nil)))
  (.cons (.setFld 3 0 0 (.var 1))
  (.cons (.setFld 3 0 1 (.var 2))
  (.cons (.setFld 3 0 2 (.var 3))
  .nil)))))), []⟩
def f70_Effect_of : Fn := ⟨[[99, 108, 115], [115, 116, 101, 112, 115], [115, 121, 109, 109, 101, 116, 114, 121], [108, 111, 115, 116], [108, 105, 110, 101, 115]], 2, [],
  (.cons (.expr (.call 37 (.cons (.var 1) .nil)))
  (.cons (.set (.t (.cons (.v 2) (.cons (.v 3) (.cons (.v 4) .nil)))) (.call 66 (.cons (.var 1) .nil)))
  (.cons (.ret (.ext (.newK 0 69 3 0) (.cons (.var 2) (.cons (.var 3) (.cons (.ext (.new 52 2 0) (.cons (.var 4) .nil)) .nil)))))
  .nil))), []⟩
def f71_Effect_symmetry : Fn := ⟨[[115, 101, 108, 102]], 1, [],
  (.cons (.ret (.fld 3 0 (.var 0)))
  .nil), []⟩
def f72_Effect_lost : Fn := ⟨[[115, 101, 108, 102]], 1, [],
  (.cons (.ret (.fld 3 1 (.var 0)))
  .nil), []⟩
def f73_Effect_frame : Fn := ⟨[[115, 101, 108, 102]], 1, [],
  (.cons (.ret (.fld 3 2 (.var 0)))
  .nil), []⟩
def f74_Effect_parts : Fn := ⟨[[115, 101, 108, 102]], 1, [],
  (.cons (.ret (.tup (.cons (.fld 3 0 (.var 0)) (.cons (.fld 3 1 (.var 0)) (.cons (.meth 57 2 0 (.fld 3 2 (.var 0)) .nil) .nil)))))
  .nil), []⟩
def f75_Effect_then : Fn := ⟨[[115, 101, 108, 102], [111, 116, 104, 101, 114], [115, 121, 109, 109, 101, 116, 114, 121], [108, 111, 115, 116], [108, 105, 110, 101, 115]], 2, [],
  (.cons (.expr (.call 78 (.cons (.lst (.cons (.var 1) .nil)) .nil)))
  (.cons (.set (.t (.cons (.v 2) (.cons (.v 3) (.cons (.v 4) .nil)))) (.call 67 (.cons (.meth 74 3 0 (.var 0) .nil) (.cons (.meth 74 3 0 (.var 1) .nil) .nil))))
  (.cons (.ifs (.cmp .gt (.bi .len (.cons (.var 4) .nil)) (.glb 3))
  (.cons (.raise 16 (.cons (.bi .len (.cons (.var 4) .nil)) .nil))
  .nil)
  .nil)
  (.cons (.ret (.ext (.new 69 3 0) (.cons (.var 2) (.cons (.var 3) (.cons (.ext (.new 52 2 0) (.cons (.var 4) .nil)) .nil)))))
  .nil)))), []⟩
def f78_check_effects : Fn := ⟨[[118, 97, 108, 117, 101, 115], [118, 97, 108, 117, 101]], 1, [],
  (.cons (.for_ (.v 1) (.seq (.var 0))
  (.cons (.ifs (.not (.isi (.var 1) [.cls 3] false))
  (.cons (.raise 10 (.cons (.var 1) .nil))
  .nil)
  .nil)
  .nil))
  .nil), []⟩
def f79_Frame_widths : Fn := ⟨[[115, 101, 108, 102], [115, 105, 100, 101], [108, 105, 110, 101]], 1, [],
  (.cons (.ret (.bi .tuple (.cons (.comp (.bi .len (.cons (.compIf (.var 2) (.v 2) (.seq (.fld 2 0 (.var 0))) (.cmp .eq (.ix (.var 2) (.int 0)) (.var 1)) [2]) .nil)) (.v 1) (.seq (.glb 0)) [1]) .nil)))
  .nil), []⟩
def f80_Frame_enclose : Fn := ⟨[[115, 101, 108, 102], [112, 105, 99, 116, 117, 114, 101], [115, 105, 100, 101], [99, 111, 108, 111, 117, 114]], 2, [],
  (.cons (.expr (.call 24 (.cons (.var 1) .nil)))
  (.cons (.for_ (.t (.cons (.v 2) (.cons (.v 3) .nil))) (.seq (.fld 2 0 (.var 0)))
  (.cons (.set (.v 1) (.meth 23 0 0 (.var 1) (.cons (.var 2) (.cons (.var 3) .nil))))
  .nil))
  (.cons (.ret (.var 1))
  .nil))), []⟩
def f81_last_lines : Fn := ⟨[[108, 105, 110, 101, 115], [102, 111, 117, 110, 100], [115, 105, 100, 101], [112, 108, 97, 99, 101, 115], [105, 110, 100, 101, 120], [108, 105, 110, 101]], 1, [],
  (.cons (.set (.v 1) (.lst .nil))
  (.cons (.for_ (.v 2) (.seq (.glb 0))
  (.cons (.set (.v 3) (.compIf (.var 4) (.t (.cons (.v 4) (.cons (.v 5) .nil))) (.enum (.var 0)) (.cmp .eq (.ix (.var 5) (.int 0)) (.var 2)) [4, 5]))
  (.cons (.ifs (.and (.cmp .ne (.var 3) (.lst .nil)) (.not (.bi .any (.cons (.comp (.call 45 (.cons (.ix (.var 0) (.ix (.var 3) (.neg (.int 1)))) (.cons (.var 5) .nil))) (.v 5) (.seq (.sl (.var 0) (.yes (.ix (.var 3) (.neg (.int 1)))) .no)) [5]) .nil))))
  (.cons (.app 1 (.ix (.var 3) (.neg (.int 1))))
  .nil)
  .nil)
  .nil)))
  (.cons (.ret (.var 1))
  .nil))), []⟩
def f86_Frame_count_orders : Fn := ⟨[[115, 101, 108, 102]], 1, [],
  (.cons (.ifs (.cmp .gt (.bi .len (.cons (.fld 2 0 (.var 0)) .nil)) (.glb 4))
  (.cons (.raise 16 (.cons (.bi .len (.cons (.fld 2 0 (.var 0)) .nil)) .nil))
  .nil)
  .nil)
  (.cons (.ret (.meth 84 4 0 (.ext (.new 83 4 0) .nil) (.cons (.bi .list (.cons (.fld 2 0 (.var 0)) .nil)) .nil)))
  .nil)), []⟩
def f87_Frame_peelable : Fn := ⟨[[115, 101, 108, 102], [105, 110, 100, 101, 120]], 1, [],
  (.cons (.ret (.comp (.ix (.ix (.fld 2 0 (.var 0)) (.var 1)) (.int 0)) (.v 1) (.seq (.call 81 (.cons (.fld 2 0 (.var 0)) .nil))) [1]))
  .nil), []⟩
def f88_Frame_moved : Fn := ⟨[[115, 101, 108, 102], [115, 121, 109, 109, 101, 116, 114, 121], [115, 105, 100, 101], [99, 111, 108, 111, 117, 114]], 2, [],
  (.cons (.expr (.call 42 (.cons (.var 1) .nil)))
  (.cons (.ret (.ext (.new 52 2 0) (.cons (.comp (.tup (.cons (.meth 31 1 0 (.var 1) (.cons (.var 2) .nil)) (.cons (.var 3) .nil))) (.t (.cons (.v 2) (.cons (.v 3) .nil))) (.seq (.fld 2 0 (.var 0))) [2, 3]) .nil)))
  .nil)), []⟩
def f89_Effect_smallest : Fn := ⟨[[115, 101, 108, 102], [116, 111, 112], [114, 105, 103, 104, 116], [98, 111, 116, 116, 111, 109], [108, 101, 102, 116]], 1, [],
  (.cons (.set (.t (.cons (.v 1) (.cons (.v 2) (.cons (.v 3) (.cons (.v 4) .nil))))) (.fld 3 1 (.var 0)))
  (.cons (.ret (.tup (.cons (.bin .add (.bin .add (.var 1) (.var 3)) (.int 1)) (.cons (.bin .add (.bin .add (.var 4) (.var 2)) (.int 1)) .nil))))
  .nil)), []⟩
def f90_Effect_apply : Fn := ⟨[[115, 101, 108, 102], [112, 105, 99, 116, 117, 114, 101], [114, 111, 119, 115], [99, 111, 114, 101], [104, 101, 105, 103, 104, 116], [119, 105, 100, 116, 104], [116, 111, 112], [114, 105, 103, 104, 116], [98, 111, 116, 116, 111, 109], [108, 101, 102, 116], [114, 111, 119]], 2, [],
  (.cons (.expr (.call 24 (.cons (.var 1) .nil)))
  (.cons (.set (.t (.cons (.v 4) (.cons (.v 5) .nil))) (.prop 89 3 (.var 0)))
  (.cons (.ifs (.or (.cmp .lt (.prop 6 0 (.var 1)) (.var 4)) (.cmp .lt (.prop 7 0 (.var 1)) (.var 5)))
  (.cons (.raise 15 (.cons (.var 4) (.cons (.var 5) .nil)))
  .nil)
  .nil)
  (.cons (.set (.t (.cons (.v 6) (.cons (.v 7) (.cons (.v 8) (.cons (.v 9) .nil))))) (.fld 3 1 (.var 0)))
  (.cons (.set (.v 2) (.sl (.prop 5 0 (.var 1)) (.yes (.var 6)) (.yes (.bin .sub (.prop 6 0 (.var 1)) (.var 8)))))
  (.cons (.set (.v 3) (.ext (.new 4 0 0) (.cons (.comp (.sl (.var 10) (.yes (.var 9)) (.yes (.bin .sub (.prop 7 0 (.var 1)) (.var 7)))) (.v 10) (.seq (.var 2)) [10]) .nil)))
  (.cons (.ret (.meth 80 2 0 (.fld 3 2 (.var 0)) (.cons (.meth 33 1 0 (.fld 3 0 (.var 0)) (.cons (.var 3) .nil)) .nil)))
  .nil))))))), []⟩
def f91_Effect_identity : Fn := ⟨[[99, 108, 115]], 1, [],
  (.cons (.ret (.ext (.newK 0 69 3 0) (.cons (.ext (.new 25 1 2) .nil) (.cons (.tup (.cons (.int 0) (.cons (.int 0) (.cons (.int 0) (.cons (.int 0) .nil))))) (.cons (.ext (.new 52 2 0) (.cons (.lst .nil) .nil)) .nil)))))
  .nil), []⟩
def f93_multiplied : Fn := ⟨[[101, 102, 102, 101, 99, 116], [99, 111, 117, 110, 116], [114, 101, 115, 117, 108, 116], [115, 113, 117, 97, 114, 101], [108, 101, 102, 116]], 2, [],
  (.cons (.par3 2 3 4 (.ext (.kmeth 91 3 0) .nil) (.var 0) (.var 1))
  (.cons (.while_ (.cmp .gt (.var 4) (.int 0))
  (.cons (.ifs (.cmp .eq (.bin .mod (.var 4) (.int 2)) (.int 1))
  (.cons (.set (.v 2) (.meth 75 3 0 (.var 2) (.cons (.var 3) .nil)))
  .nil)
  .nil)
  (.cons (.aug 4 .fdiv (.int 2))
  (.cons (.ifs (.cmp .gt (.var 4) (.int 0))
  (.cons (.set (.v 3) (.meth 75 3 0 (.var 3) (.cons (.var 3) .nil)))
  .nil)
  .nil)
  .nil))))
  (.cons (.ret (.var 2))
  .nil))), []⟩
def f95_commute : Fn := ⟨[[111, 110, 101], [111, 116, 104, 101, 114]], 2, [],
  (.cons (.expr (.call 78 (.cons (.lst (.cons (.var 0) (.cons (.var 1) .nil))) .nil)))
  (.cons (.ret (.cmp .eq (.call 67 (.cons (.meth 74 3 0 (.var 0) .nil) (.cons (.meth 74 3 0 (.var 1) .nil) .nil))) (.call 67 (.cons (.meth 74 3 0 (.var 1) .nil) (.cons (.meth 74 3 0 (.var 0) .nil) .nil)))))
  .nil)), []⟩
def f96_is_idempotent : Fn := ⟨[[101, 102, 102, 101, 99, 116]], 1, [],
  (.cons (.expr (.call 78 (.cons (.lst (.cons (.var 0) .nil)) .nil)))
  (.cons (.ret (.and (.cmp .eq (.prop 71 3 (.var 0)) (.ext (.new 25 1 2) .nil)) (.cmp .eq (.prop 72 3 (.var 0)) (.prop 79 2 (.prop 73 3 (.var 0))))))
  .nil)), []⟩
def f99_Axis___init : Fn := ⟨[[115, 101, 108, 102], [99, 111, 117, 110, 116]], 2, [0],
  (.cons (.setFld 5 0 0 (.lst .nil))
  (.cons (.setFld 5 0 1 (.var 1))
  (.cons (.setFld 5 0 2 (.lst .nil))
  .nil))), []⟩
def f100_Axis_size : Fn := ⟨[[115, 101, 108, 102]], 1, [],
  (.cons (.ret (.bin .add (.bin .add (.bi .len (.cons (.fld 5 0 (.var 0)) .nil)) (.fld 5 1 (.var 0))) (.bi .len (.cons (.fld 5 2 (.var 0)) .nil))))
  .nil), []⟩
def f104_Axis_lines : Fn := ⟨[[115, 101, 108, 102]], 1, [],
  (.cons (.ret (.bin .add (.bin .add (.rev (.fld 5 0 (.var 0))) (.bin .mul (.lst (.cons .non .nil)) (.fld 5 1 (.var 0)))) (.fld 5 2 (.var 0))))
  .nil), []⟩
def f105_Grid___init : Fn := ⟨[[115, 101, 108, 102], [104, 101, 105, 103, 104, 116], [119, 105, 100, 116, 104]], 3, [0],
  (.cons (.setFld 6 0 0 (.ext (.new 99 5 0) (.cons (.var 1) .nil)))
  (.cons (.setFld 6 0 1 (.ext (.new 99 5 0) (.cons (.var 2) .nil)))
  .nil)), []⟩
def f107_Grid_picture : Fn := ⟨[[115, 101, 108, 102], [108, 111, 110, 103, 101, 115, 116], [114, 111, 119, 115], [99, 111, 108, 117, 109, 110, 115], [114, 111, 119], [99, 111, 108, 117, 109, 110]], 1, [],
  (.cons (.ifs (.and (.cmp .gt (.fld 5 1 (.fld 6 0 (.var 0))) (.int 0)) (.cmp .gt (.fld 5 1 (.fld 6 1 (.var 0))) (.int 0)))
  (.cons (.ret .non)
  .nil)
  .nil)
  (.cons (.set (.v 1) (.bi .max2 (.cons (.meth 100 5 0 (.fld 6 0 (.var 0)) .nil) (.cons (.meth 100 5 0 (.fld 6 1 (.var 0)) .nil) .nil))))
  (.cons (.ifs (.cmp .gt (.var 1) (.glb 7))
  (.cons (.raise 16 (.cons (.var 1) .nil))
  .nil)
  .nil)
  (.cons (.set (.t (.cons (.v 2) (.cons (.v 3) .nil))) (.tup (.cons (.meth 104 5 0 (.fld 6 0 (.var 0)) .nil) (.cons (.meth 104 5 0 (.fld 6 1 (.var 0)) .nil) .nil))))
  (.cons (.ret (.ext (.new 4 0 0) (.cons (.comp (.comp (.call 108 (.cons (.var 4) (.cons (.var 5) .nil))) (.v 5) (.seq (.var 3)) [5]) (.v 4) (.seq (.var 2)) [4]) .nil)))
  .nil))))), []⟩
def f109_outcome : Fn := ⟨[[115, 116, 101, 112, 115], [104, 101, 105, 103, 104, 116], [119, 105, 100, 116, 104], [103, 114, 105, 100], [105, 110, 100, 101, 120], [115, 116, 101, 112]], 3, [],
  (.cons (.expr (.call 37 (.cons (.var 0) .nil)))
  (.cons (.expr (.call 16 (.cons (.var 1) (.cons (.int 1) .nil))))
  (.cons (.expr (.call 16 (.cons (.var 2) (.cons (.int 1) .nil))))
  (.cons (.set (.v 3) (.ext (.new 105 6 0) (.cons (.var 1) (.cons (.var 2) .nil))))
  (.cons (.for_ (.t (.cons (.v 4) (.cons (.v 5) .nil))) (.enum (.var 0))
  (.cons (.expr (.meth 106 6 0 (.var 3) (.cons (.var 4) (.cons (.var 5) .nil))))
  .nil))
  (.cons (.ret (.meth 107 6 0 (.var 3) .nil))
  .nil)))))), []⟩
def f110_running_size : Fn := ⟨[[115, 116, 101, 112, 115], [115, 116, 101, 112], [110, 101, 101, 100, 101, 100], [99, 104, 97, 110, 103, 101, 115], [112, 108, 97, 99, 101], [97, 120, 105, 115]], 1, [],
  (.cons (.expr (.call 37 (.cons (.var 0) .nil)))
  (.cons (.par3 2 3 4 (.lst (.cons (.int 1) (.cons (.int 1) .nil))) (.lst (.cons (.int 0) (.cons (.int 0) .nil))) (.int 0))
  (.cons (.for_ (.v 1) (.seq (.var 0))
  (.cons (.ifs (.cmp .eq (.ix (.var 1) (.int 0)) (.str [116, 117, 114, 110]))
  (.cons (.set (.v 4) (.bin .sub (.int 1) (.var 4)))
  .nil)
  (.cons (.ifs (.cmp .ne (.ix (.var 1) (.int 0)) (.str [109, 105, 114, 114, 111, 114]))
  (.cons (.set (.v 5) (.ite (.inn false (.ix (.var 1) (.int 1)) (.tup (.cons (.str [116, 111, 112]) (.cons (.str [98, 111, 116, 116, 111, 109]) .nil)))) (.var 4) (.bin .sub (.int 1) (.var 4))))
  (.cons (.augIx 3 (.var 5) .add (.ite (.cmp .eq (.ix (.var 1) (.int 0)) (.str [97, 100, 100])) (.int 1) (.neg (.int 1))))
  (.cons (.setIx 2 (.var 5) (.bi .max2 (.cons (.ix (.var 2) (.var 5)) (.cons (.bin .sub (.int 1) (.ix (.var 3) (.var 5))) .nil))))
  .nil)))
  .nil)
  .nil))
  .nil))
  (.cons (.ret (.bi .tuple (.cons (.var 2) .nil)))
  .nil)))), []⟩
def f111_result_on : Fn := ⟨[[115, 116, 101, 112, 115], [104, 101, 105, 103, 104, 116], [119, 105, 100, 116, 104], [114, 101, 115, 117, 108, 116]], 3, [],
  (.cons (.tryx (.cons (.set (.v 3) (.lst (.cons (.call 109 (.cons (.var 0) (.cons (.var 1) (.cons (.var 2) .nil)))) .nil)))
  .nil)
  (.cons 6 none (.set 3 (.lst .nil))
  .nil))
  (.cons (.ret (.var 3))
  .nil)), []⟩
def f112_differing_size : Fn := ⟨[[111, 110, 101, 95, 115, 116, 101, 112, 115], [111, 116, 104, 101, 114, 95, 115, 116, 101, 112, 115], [114, 111, 119, 115], [104, 101, 105, 103, 104, 116], [119, 105, 100, 116, 104], [99, 111, 108, 117, 109, 110, 115]], 2, [],
  (.cons (.set (.t (.cons (.v 3) (.cons (.v 4) .nil))) (.prop 89 3 (.ext (.kmeth 70 3 0) (.cons (.var 0) .nil))))
  (.cons (.for_ (.v 2) (.rng2 (.int 1) (.bin .add (.var 3) (.int 1)))
  (.cons (.for_ (.v 5) (.rng2 (.int 1) (.bin .add (.var 4) (.int 1)))
  (.cons (.ifs (.cmp .ne (.call 111 (.cons (.var 0) (.cons (.var 2) (.cons (.var 5) .nil)))) (.call 111 (.cons (.var 1) (.cons (.var 2) (.cons (.var 5) .nil)))))
  (.cons (.ret (.tup (.cons (.var 2) (.cons (.var 5) .nil))))
  .nil)
  .nil)
  .nil))
  .nil))
  (.cons (.ret .non)
  .nil))), []⟩
def f113_act_alike : Fn := ⟨[[111, 110, 101, 95, 115, 116, 101, 112, 115], [111, 116, 104, 101, 114, 95, 115, 116, 101, 112, 115]], 2, [],
  (.cons (.ret (.isN false (.call 114 (.cons (.var 0) (.cons (.var 1) .nil)))))
  .nil), []⟩
def f115_widths_of : Fn := ⟨[[108, 105, 110, 101, 115], [115, 105, 100, 101], [108, 105, 110, 101]], 1, [],
  (.cons (.ret (.comp (.bi .len (.cons (.compIf (.var 2) (.v 2) (.seq (.var 0)) (.cmp .eq (.ix (.var 2) (.int 0)) (.var 1)) [2]) .nil)) (.v 1) (.seq (.glb 0)) [1]))
  .nil), []⟩
def f116_order_of : Fn := ⟨[[115, 121, 109, 109, 101, 116, 114, 121], [99, 111, 117, 110, 116], [99, 117, 114, 114, 101, 110, 116]], 1, [],
  (.cons (.par2 1 2 (.int 1) (.var 0))
  (.cons (.while_ (.not (.cmp .eq (.var 2) (.ext (.new 25 1 2) .nil)))
  (.cons (.par2 1 2 (.bin .add (.var 1) (.int 1)) (.bin .mul (.var 2) (.var 0)))
  .nil))
  (.cons (.ret (.var 1))
  .nil))), []⟩
def f118_GreatPower_growth : Fn := ⟨[[115, 101, 108, 102], [112, 108, 97, 99, 101]], 2, [],
  (.cons (.ret (.bi .max2 (.cons (.bin .sub (.ix (.fld 7 3 (.var 0)) (.var 1)) (.ix (.ix (.fld 7 1 (.var 0)) (.int 1)) (.var 1))) (.cons (.int 0) .nil))))
  .nil), []⟩
def f119_GreatPower_repeated_width : Fn := ⟨[[115, 101, 108, 102], [112, 108, 97, 99, 101]], 2, [],
  (.cons (.ifs (.cmp .eq (.fld 7 0 (.var 0)) (.int 0))
  (.cons (.ret (.int 0))
  .nil)
  .nil)
  (.cons (.ret (.bin .add (.ix (.fld 7 3 (.var 0)) (.var 1)) (.bin .mul (.bin .sub (.fld 7 0 (.var 0)) (.int 1)) (.meth 118 7 0 (.var 0) (.cons (.var 1) .nil)))))
  .nil)), []⟩
def f120_GreatPower_repeated_lost : Fn := ⟨[[115, 101, 108, 102], [112, 108, 97, 99, 101], [108, 111, 115, 116]], 2, [],
  (.cons (.ifs (.cmp .eq (.fld 7 0 (.var 0)) (.int 0))
  (.cons (.ret (.int 0))
  .nil)
  .nil)
  (.cons (.set (.v 2) (.ix (.ix (.fld 7 1 (.var 0)) (.int 1)) (.var 1)))
  (.cons (.ret (.bin .add (.var 2) (.bin .mul (.bin .sub (.fld 7 0 (.var 0)) (.int 1)) (.bi .max2 (.cons (.bin .sub (.var 2) (.ix (.fld 7 3 (.var 0)) (.var 1))) (.cons (.int 0) .nil))))))
  .nil))), []⟩
def f122_GreatPower_total_lost : Fn := ⟨[[115, 101, 108, 102], [109, 105, 115, 115, 105, 110, 103], [112, 108, 97, 99, 101]], 1, [],
  (.cons (.set (.v 1) (.comp (.bi .max2 (.cons (.bin .sub (.ix (.ix (.fld 7 2 (.var 0)) (.int 1)) (.var 2)) (.meth 119 7 0 (.var 0) (.cons (.var 2) .nil))) (.cons (.int 0) .nil))) (.v 2) (.rng (.int 4)) [2]))
  (.cons (.ret (.bi .tuple (.cons (.comp (.bin .add (.meth 120 7 0 (.var 0) (.cons (.var 2) .nil)) (.ix (.var 1) (.var 2))) (.v 2) (.rng (.int 4)) [2]) .nil)))
  .nil)), []⟩
def f123_GreatPower_total_widths : Fn := ⟨[[115, 101, 108, 102], [111, 119, 110], [112, 108, 97, 99, 101], [115, 105, 100, 101]], 1, [],
  (.cons (.set (.v 1) (.call 115 (.cons (.ix (.fld 7 2 (.var 0)) (.int 2)) .nil)))
  (.cons (.ret (.bi .tuple (.cons (.comp (.bin .add (.meth 121 7 0 (.var 0) (.cons (.var 3) .nil)) (.ix (.var 1) (.var 2))) (.t (.cons (.v 2) (.cons (.v 3) .nil))) (.enum (.glb 0)) [2, 3]) .nil)))
  .nil)), []⟩
def f128_shortest_length : Fn := ⟨[[101, 102, 102, 101, 99, 116]], 1, [],
  (.cons (.expr (.call 78 (.cons (.lst (.cons (.var 0) .nil)) .nil)))
  (.cons (.ret (.bin .add (.bin .add (.bi .sum (.cons (.prop 72 3 (.var 0)) .nil)) (.bi .len (.cons (.meth 32 1 0 (.prop 71 3 (.var 0)) .nil) .nil))) (.bi .len (.cons (.prop 73 3 (.var 0)) .nil))))
  .nil)), []⟩
def f131_part_of : Fn := ⟨[[114, 111, 119, 115], [114, 111, 119], [99, 111, 108, 117, 109, 110], [104, 101, 105, 103, 104, 116], [119, 105, 100, 116, 104], [108, 105, 110, 101]], 5, [],
  (.cons (.ret (.bi .tuple (.cons (.comp (.sl (.var 5) (.yes (.var 2)) (.yes (.bin .add (.var 2) (.var 4)))) (.v 5) (.seq (.sl (.var 0) (.yes (.var 1)) (.yes (.bin .add (.var 1) (.var 3))))) [5]) .nil)))
  .nil), []⟩
def f132_check_cells : Fn := ⟨[[112, 105, 99, 116, 117, 114, 101], [109, 111, 115, 116], [99, 101, 108, 108, 115]], 2, [],
  (.cons (.set (.v 2) (.bin .mul (.prop 6 0 (.var 0)) (.prop 7 0 (.var 0))))
  (.cons (.ifs (.cmp .gt (.var 2) (.var 1))
  (.cons (.raise 16 (.cons (.var 2) .nil))
  .nil)
  .nil)
  .nil)), []⟩
def f137_is_agreeing : Fn := ⟨[[101, 102, 102, 101, 99, 116], [98, 101, 102, 111, 114, 101], [97, 102, 116, 101, 114], [114, 101, 115, 117, 108, 116]], 3, [],
  (.cons (.tryx (.cons (.set (.v 3) (.cmp .eq (.meth 90 3 0 (.var 0) (.cons (.var 1) .nil)) (.var 2)))
  .nil)
  (.cons 15 none (.set 3 (.bl false))
  .nil))
  (.cons (.ret (.var 3))
  .nil)), []⟩
def f138_agreeing_effects : Fn := ⟨[[111, 98, 115, 101, 114, 118, 97, 116, 105, 111, 110, 115], [102, 111, 117, 110, 100], [101, 102, 102, 101, 99, 116], [98, 101, 102, 111, 114, 101], [97, 102, 116, 101, 114]], 1, [],
  (.cons (.ifs (.not (.call 136 (.cons (.var 0) .nil)))
  (.cons (.raise 1 (.cons (.var 0) .nil))
  .nil)
  .nil)
  (.cons (.set (.v 1) (.call 135 (.cons (.ix (.ix (.var 0) (.int 0)) (.int 0)) (.cons (.ix (.ix (.var 0) (.int 0)) (.int 1)) .nil))))
  (.cons (.ret (.compIf (.var 2) (.v 2) (.seq (.var 1)) (.bi .all (.cons (.comp (.call 137 (.cons (.var 2) (.cons (.var 3) (.cons (.var 4) .nil)))) (.t (.cons (.v 3) (.cons (.v 4) .nil))) (.seq (.sl (.var 0) (.yes (.int 1)) .no)) [3, 4]) .nil)) [2]))
  .nil))), []⟩
def f140_size_of : Fn := ⟨[[119, 105, 110, 100, 111, 119], [116, 111, 112], [114, 105, 103, 104, 116], [98, 111, 116, 116, 111, 109], [108, 101, 102, 116]], 1, [],
  (.cons (.set (.t (.cons (.v 1) (.cons (.v 2) (.cons (.v 3) (.cons (.v 4) .nil))))) (.var 0))
  (.cons (.ret (.tup (.cons (.bin .add (.bin .sub (.var 3) (.var 1)) (.int 1)) (.cons (.bin .add (.bin .sub (.var 2) (.var 4)) (.int 1)) .nil))))
  .nil)), []⟩
def f143_adds : Fn := ⟨[[108, 105, 110, 101, 115], [115, 105, 100, 101], [99, 111, 108, 111, 117, 114]], 1, [],
  (.cons (.ret (.comp (.tup (.cons (.str [97, 100, 100]) (.cons (.var 1) (.cons (.var 2) .nil)))) (.t (.cons (.v 1) (.cons (.v 2) .nil))) (.seq (.var 0)) [1, 2]))
  .nil), []⟩
def f144_plans_with_core : Fn := ⟨[[115, 116, 97, 114, 116], [103, 111, 97, 108], [119, 105, 110, 100, 111, 119], [107, 110, 111, 119, 110], [102, 111, 117, 110, 100], [114, 111, 119, 115], [115, 121, 109, 109, 101, 116, 114, 121], [104, 101, 105, 103, 104, 116], [119, 105, 100, 116, 104], [99, 111, 114, 101], [99, 111, 117, 110, 116, 115], [114, 111, 119], [99, 111, 108, 117, 109, 110]], 2, [],
  (.cons (.par2 3 4 (.call 141 (.cons (.var 0) .nil)) (.lst .nil))
  (.cons (.for_ (.v 2) (.seq (.call 139 (.cons (.prop 5 0 (.var 1)) .nil)))
  (.cons (.set (.t (.cons (.v 7) (.cons (.v 8) .nil))) (.call 140 (.cons (.var 2) .nil)))
  (.cons (.set (.v 5) (.call 131 (.cons (.prop 5 0 (.var 1)) (.cons (.ix (.var 2) (.int 0)) (.cons (.ix (.var 2) (.int 3)) (.cons (.var 7) (.cons (.var 8) .nil)))))))
  (.cons (.for_ (.v 6) (.seq (.ext (.stat 26 1 0) .nil))
  (.cons (.set (.v 9) (.meth 33 1 0 (.meth 30 1 0 (.var 6) .nil) (.cons (.ext (.new 4 0 0) (.cons (.var 5) .nil)) .nil)))
  (.cons (.ifs (.inn false (.prop 5 0 (.var 9)) (.var 3))
  (.cons (.set (.t (.cons (.v 11) (.cons (.v 12) .nil))) (.ix (.var 3) (.prop 5 0 (.var 9))))
  (.cons (.set (.v 10) (.tup (.cons (.var 11) (.cons (.bin .sub (.bin .sub (.prop 7 0 (.var 0)) (.var 12)) (.prop 7 0 (.var 9))) (.cons (.bin .sub (.bin .sub (.prop 6 0 (.var 0)) (.var 11)) (.prop 6 0 (.var 9))) (.cons (.var 12) .nil))))))
  (.cons (.app 4 (.bin .add (.bin .add (.call 142 (.cons (.var 10) .nil)) (.meth 32 1 0 (.var 6) .nil)) (.call 143 (.cons (.call 51 (.cons (.prop 5 0 (.var 1)) (.cons (.var 2) .nil))) .nil))))
  .nil)))
  .nil)
  .nil)))
  .nil))))
  (.cons (.ret (.var 4))
  .nil))), []⟩
def f145_thin_plan : Fn := ⟨[[115, 116, 97, 114, 116], [103, 111, 97, 108], [119, 105, 110, 100, 111, 119], [105, 115, 95, 114, 111, 119], [116, 117, 114, 110, 115], [108, 101, 110, 103, 116, 104], [107, 101, 112, 116], [105, 110, 110, 101, 114], [99, 111, 117, 110, 116, 115], [99, 111, 108, 111, 117, 114], [115, 116, 101, 112, 115], [97, 108, 111, 110, 103], [97, 99, 114, 111, 115, 115], [116, 111, 112], [114, 105, 103, 104, 116], [98, 111, 116, 116, 111, 109], [108, 101, 102, 116], [115, 105, 100, 101], [111, 116, 104, 101, 114]], 5, [],
  (.cons (.set (.t (.cons (.v 11) (.cons (.v 12) .nil))) (.ite (.cmp .ne (.var 3) (.var 4)) (.tup (.cons (.prop 7 0 (.var 0)) (.cons (.prop 6 0 (.var 0)) .nil))) (.tup (.cons (.prop 6 0 (.var 0)) (.cons (.prop 7 0 (.var 0)) .nil)))))
  (.cons (.set (.v 5) (.ix (.call 140 (.cons (.var 2) .nil)) (.ite (.var 3) (.int 1) (.int 0))))
  (.cons (.set (.v 6) (.bi .min2 (.cons (.var 5) (.cons (.var 11) .nil))))
  (.cons (.set (.t (.cons (.v 13) (.cons (.v 14) (.cons (.v 15) (.cons (.v 16) .nil))))) (.var 2))
  (.cons (.set (.v 7) (.ite (.var 3) (.tup (.cons (.var 13) (.cons (.bin .sub (.bin .add (.var 16) (.var 6)) (.int 1)) (.cons (.var 15) (.cons (.var 16) .nil))))) (.tup (.cons (.var 13) (.cons (.var 14) (.cons (.bin .sub (.bin .add (.var 13) (.var 6)) (.int 1)) (.cons (.var 16) .nil)))))))
  (.cons (.set (.v 8) (.ite (.cmp .ne (.var 3) (.var 4)) (.tup (.cons (.int 0) (.cons (.bin .sub (.var 11) (.var 6)) (.cons (.bin .sub (.var 12) (.int 1)) (.cons (.int 0) .nil))))) (.tup (.cons (.int 0) (.cons (.bin .sub (.var 12) (.int 1)) (.cons (.bin .sub (.var 11) (.var 6)) (.cons (.int 0) .nil)))))))
  (.cons (.set (.t (.cons (.v 17) (.cons (.v 18) .nil))) (.ite (.var 3) (.tup (.cons (.str [116, 111, 112]) (.cons (.str [98, 111, 116, 116, 111, 109]) .nil))) (.tup (.cons (.str [108, 101, 102, 116]) (.cons (.str [114, 105, 103, 104, 116]) .nil)))))
  (.cons (.set (.v 9) (.ix (.ix (.prop 5 0 (.var 1)) (.var 13)) (.var 16)))
  (.cons (.set (.v 10) (.bin .add (.bin .add (.call 142 (.cons (.var 8) .nil)) (.bin .mul (.lst (.cons (.tup (.cons (.str [116, 117, 114, 110]) .nil)) .nil)) (.bi .int (.cons (.var 4) .nil)))) (.lst (.cons (.tup (.cons (.str [97, 100, 100]) (.cons (.var 17) (.cons (.var 9) .nil)))) (.cons (.tup (.cons (.str [99, 117, 116]) (.cons (.var 18) .nil))) .nil)))))
  (.cons (.ret (.bin .add (.var 10) (.call 143 (.cons (.call 51 (.cons (.prop 5 0 (.var 1)) (.cons (.var 7) .nil))) .nil))))
  .nil)))))))))), []⟩
def f148_distance : Fn := ⟨[[115, 116, 97, 114, 116], [103, 111, 97, 108], [115, 116, 101, 112, 115]], 2, [],
  (.cons (.set (.v 2) (.call 147 (.cons (.var 0) (.cons (.var 1) .nil))))
  (.cons (.ret (.ite (.isN false (.var 2)) .non (.bi .len (.cons (.var 2) .nil))))
  .nil)), []⟩
def f149_is_wish : Fn := ⟨[[118, 97, 108, 117, 101], [110, 117, 109, 98, 101, 114]], 1, [],
  (.cons (.ifs (.or (.not (.isi (.var 0) [.tuple] false)) (.or (.cmp .ne (.bi .len (.cons (.var 0) .nil)) (.int 3)) (.not (.call 1 (.cons (.ix (.var 0) (.int 2)) .nil)))))
  (.cons (.ret (.bl false))
  .nil)
  .nil)
  (.cons (.ifs (.not (.bi .all (.cons (.comp (.and (.call 0 (.cons (.var 1) .nil)) (.chn .le .le (.neg (.glb 13)) (.var 1) (.glb 13))) (.v 1) (.seq (.sl (.var 0) .no (.yes (.int 2)))) [1]) .nil)))
  (.cons (.ret (.bl false))
  .nil)
  .nil)
  (.cons (.ret (.cmp .ne (.sl (.var 0) .no (.yes (.int 2))) (.tup (.cons (.int 0) (.cons (.int 0) .nil)))))
  .nil))), []⟩
def f154_is_name : Fn := ⟨[[118, 97, 108, 117, 101], [108, 101, 116, 116, 101, 114]], 1, [],
  (.cons (.ifs (.or (.not (.isi (.var 0) [.str] false)) (.not (.chn .le .le (.int 1) (.bi .len (.cons (.var 0) .nil)) (.glb 16))))
  (.cons (.ret (.bl false))
  .nil)
  .nil)
  (.cons (.ret (.bi .all (.cons (.comp (.inn false (.var 1) (.glb 17)) (.v 1) (.seq (.var 0)) [1]) .nil)))
  .nil)), []⟩
def f155_check_name : Fn := ⟨[[118, 97, 108, 117, 101]], 1, [],
  (.cons (.ifs (.not (.call 154 (.cons (.var 0) .nil)))
  (.cons (.raise 12 (.cons (.var 0) .nil))
  .nil)
  .nil)
  .nil), []⟩
def f158_Gallery_check_known : Fn := ⟨[[115, 101, 108, 102], [110, 97, 109, 101]], 2, [],
  (.cons (.ifs (.or (.not (.call 154 (.cons (.var 1) .nil))) (.inn true (.var 1) (.fld 8 0 (.var 0))))
  (.cons (.raise 17 (.cons (.var 1) .nil))
  .nil)
  .nil)
  .nil), []⟩
def f162_Gallery_picture : Fn := ⟨[[115, 101, 108, 102], [110, 97, 109, 101]], 2, [],
  (.cons (.expr (.meth 158 8 0 (.var 0) (.cons (.var 1) .nil)))
  (.cons (.ret (.ix (.fld 8 1 (.var 0)) (.var 1)))
  .nil)), []⟩
def f164_Gallery_entries : Fn := ⟨[[115, 101, 108, 102], [117, 115, 101, 114], [110, 97, 109, 101], [115, 116, 101, 112, 115]], 1, [],
  (.cons (.ret (.comp (.tup (.cons (.var 1) (.cons (.var 2) (.cons (.bi .list (.cons (.var 3) .nil)) .nil)))) (.t (.cons (.v 1) (.cons (.v 2) (.cons (.v 3) .nil)))) (.seq (.fld 8 2 (.var 0))) [1, 2, 3]))
  .nil), []⟩
def f172_read_count : Fn := ⟨[[116, 101, 120, 116], [115, 105, 103, 110]], 1, [],
  (.cons (.ifs (.or (.not (.chn .le .le (.int 1) (.bi .len (.cons (.var 0) .nil)) (.glb 19))) (.not (.bi .all (.cons (.comp (.inn false (.var 1) (.glb 18)) (.v 1) (.seq (.var 0)) [1]) .nil))))
  (.cons (.ret .non)
  .nil)
  .nil)
  (.cons (.ret (.ite (.or (.cmp .eq (.var 0) (.str [48])) (.cmp .ne (.ix (.var 0) (.int 0)) (.str [48]))) (.bi .int (.cons (.var 0) .nil)) .non))
  .nil)), []⟩
def f173_read_line : Fn := ⟨[[119, 111, 114, 100, 115], [99, 111, 108, 111, 117, 114]], 1, [],
  (.cons (.ifs (.or (.cmp .ne (.bi .len (.cons (.var 0) .nil)) (.int 2)) (.inn true (.ix (.var 0) (.int 0)) (.glb 0)))
  (.cons (.ret .non)
  .nil)
  .nil)
  (.cons (.set (.v 1) (.call 172 (.cons (.ix (.var 0) (.int 1)) .nil)))
  (.cons (.ret (.ite (.isN false (.var 1)) .non (.tup (.cons (.ix (.var 0) (.int 0)) (.cons (.var 1) .nil)))))
  .nil))), []⟩
def f177_check_text : Fn := ⟨[[116, 101, 120, 116]], 1, [],
  (.cons (.ifs (.not (.isi (.var 0) [.str] false))
  (.cons (.raise 14 (.cons (.var 0) .nil))
  .nil)
  .nil)
  .nil), []⟩
def f185_Console_states_of : Fn := ⟨[[115, 101, 108, 102], [110, 97, 109, 101]], 2, [],
  (.cons (.expr (.call 155 (.cons (.var 1) .nil)))
  (.cons (.ifs (.inn true (.var 1) (.fld 9 0 (.var 0)))
  (.cons (.raise 17 (.cons (.var 1) .nil))
  .nil)
  .nil)
  (.cons (.ret (.ix (.fld 9 0 (.var 0)) (.var 1)))
  .nil))), []⟩
def f188_Console_run_on : Fn := ⟨[[115, 101, 108, 102], [110, 97, 109, 101], [116, 101, 120, 116], [115, 116, 97, 116, 101, 115], [112, 105, 99, 116, 117, 114, 101]], 3, [],
  (.cons (.set (.v 3) (.meth 185 9 0 (.var 0) (.cons (.var 1) .nil)))
  (.cons (.set (.v 4) (.call 41 (.cons (.ix (.var 3) (.neg (.int 1))) (.cons (.call 179 (.cons (.var 2) .nil)) .nil))))
  (.cons (.app 3 (.var 4))
  (.cons (.ret (.call 168 (.cons (.var 4) .nil)))
  .nil)))), []⟩
def f191_law_pool : Fn := ⟨[[115, 99, 114, 105, 112, 116], [107], [99, 101, 108, 108], [103, 114, 101, 97, 116], [109, 105, 120, 101, 100]], 2, [],
  (.cons (.set (.v 2) (.bin .add (.bin .mul (.int 11) (.bi .sum (.cons (.sl (.var 0) .no (.yes (.int 63))) .nil))) (.var 1)))
  (.cons (.ifs (.cmp .lt (.var 1) (.bi .len (.cons (.var 0) .nil)))
  (.cons (.set (.v 2) (.ix (.var 0) (.var 1)))
  .nil)
  .nil)
  (.cons (.set (.v 3) (.bi .abs (.cons (.var 2) .nil)))
  (.cons (.set (.v 4) (.bin .mod (.bin .mul (.bin .add (.bin .add (.bin .add (.bin .mod (.var 3) (.int 2147483629)) (.bin .mul (.bin .mul (.int 7919) (.var 1)) (.var 1))) (.bin .mul (.int 31) (.var 1))) (.int 17)) (.int 48271)) (.int 2147483647)))
  (.cons (.ret (.lst (.cons (.bin .mul (.var 3) (.bi .int (.cons (.cmp .ge (.var 3) (.bin .pow (.int 10) (.int 18))) .nil))) (.cons (.bin .mod (.bin .mul (.var 4) (.var 4)) (.int 2147483629)) .nil))))
  .nil))))), []⟩
def f192_law_draw : Fn := ⟨[[112, 111, 111, 108], [109, 97, 110, 121], [102, 111, 117, 110, 100]], 2, [0],
  (.cons (.ifs (.cmp .gt (.ix (.var 0) (.int 0)) (.int 0))
  (.cons (.set (.v 2) (.bin .mod (.ix (.var 0) (.int 0)) (.var 1)))
  (.cons (.setIx 0 (.int 0) (.bin .fdiv (.ix (.var 0) (.int 0)) (.var 1)))
  (.cons (.ret (.var 2))
  .nil)))
  .nil)
  (.cons (.setIx 0 (.int 1) (.bin .mod (.bin .add (.bin .mul (.ix (.var 0) (.int 1)) (.int 48271)) (.int 11)) (.int 2147483647)))
  (.cons (.ret (.bin .mod (.bin .fdiv (.bin .mod (.bin .mul (.ix (.var 0) (.int 1)) (.ix (.var 0) (.int 1))) (.int 2147483629)) (.int 16)) (.var 1)))
  .nil))), []⟩
def f193_law_random_picture : Fn := ⟨[[112, 111, 111, 108], [109, 111, 115, 116], [99, 111, 108, 111, 117, 114, 115], [104, 101, 105, 103, 104, 116], [119, 105, 100, 116, 104], [114, 111, 119], [99, 111, 108, 117, 109, 110]], 3, [0],
  (.cons (.set (.t (.cons (.v 3) (.cons (.v 4) .nil))) (.tup (.cons (.bin .add (.int 1) (.call 192 (.cons (.var 0) (.cons (.var 1) .nil)))) (.cons (.bin .add (.int 1) (.call 192 (.cons (.var 0) (.cons (.var 1) .nil)))) .nil))))
  (.cons (.ret (.comp (.comp (.call 192 (.cons (.var 0) (.cons (.var 2) .nil))) (.v 6) (.rng (.var 4)) [6]) (.v 5) (.rng (.var 3)) [5]))
  .nil)), []⟩
def f194_law_tuples : Fn := ⟨[[114, 111, 119, 115], [114, 111, 119]], 1, [],
  (.cons (.ret (.bi .tuple (.cons (.comp (.bi .tuple (.cons (.var 1) .nil)) (.v 1) (.seq (.var 0)) [1]) .nil)))
  .nil), []⟩
def f195_law_numbered : Fn := ⟨[[104, 101, 105, 103, 104, 116], [119, 105, 100, 116, 104], [115, 116, 97, 114, 116], [114, 111, 119], [99, 111, 108, 117, 109, 110]], 3, [],
  (.cons (.ret (.comp (.comp (.bin .add (.bin .add (.var 2) (.bin .mul (.var 3) (.var 1))) (.var 4)) (.v 4) (.rng (.var 1)) [4]) (.v 3) (.rng (.var 0)) [3]))
  .nil), []⟩
def f196_law_after : Fn := ⟨[[114, 111, 119, 115], [115, 116, 101, 112], [119, 105, 100, 116, 104], [108, 101, 102, 116], [116, 111, 112], [114, 111, 119], [99, 111, 108, 117, 109, 110]], 2, [],
  (.cons (.set (.v 2) (.bi .len (.cons (.ix (.var 0) (.int 0)) .nil)))
  (.cons (.ifs (.cmp .eq (.ix (.var 1) (.int 0)) (.str [116, 117, 114, 110]))
  (.cons (.ret (.comp (.comp (.ix (.var 5) (.var 6)) (.v 5) (.seq (.rev (.var 0))) [5]) (.v 6) (.rng (.var 2)) [6]))
  .nil)
  .nil)
  (.cons (.ifs (.cmp .eq (.ix (.var 1) (.int 0)) (.str [109, 105, 114, 114, 111, 114]))
  (.cons (.ret (.comp (.rev (.var 5)) (.v 5) (.seq (.var 0)) [5]))
  .nil)
  .nil)
  (.cons (.ifs (.inn false (.ix (.var 1) (.int 1)) (.tup (.cons (.str [116, 111, 112]) (.cons (.str [98, 111, 116, 116, 111, 109]) .nil))))
  (.cons (.set (.v 4) (.cmp .eq (.ix (.var 1) (.int 1)) (.str [116, 111, 112])))
  (.cons (.ifs (.cmp .eq (.ix (.var 1) (.int 0)) (.str [99, 117, 116]))
  (.cons (.ret (.ite (.cmp .gt (.bi .len (.cons (.var 0) .nil)) (.int 1)) (.ite (.var 4) (.sl (.var 0) (.yes (.int 1)) .no) (.sl (.var 0) .no (.yes (.neg (.int 1))))) .non))
  .nil)
  .nil)
  (.cons (.ret (.ite (.var 4) (.bin .add (.lst (.cons (.bin .mul (.lst (.cons (.ix (.var 1) (.int 2)) .nil)) (.var 2)) .nil)) (.var 0)) (.bin .add (.var 0) (.lst (.cons (.bin .mul (.lst (.cons (.ix (.var 1) (.int 2)) .nil)) (.var 2)) .nil)))))
  .nil)))
  .nil)
  (.cons (.set (.v 3) (.cmp .eq (.ix (.var 1) (.int 1)) (.str [108, 101, 102, 116])))
  (.cons (.ifs (.cmp .eq (.ix (.var 1) (.int 0)) (.str [99, 117, 116]))
  (.cons (.ret (.ite (.cmp .gt (.var 2) (.int 1)) (.comp (.ite (.var 3) (.sl (.var 5) (.yes (.int 1)) .no) (.sl (.var 5) .no (.yes (.neg (.int 1))))) (.v 5) (.seq (.var 0)) [5]) .non))
  .nil)
  .nil)
  (.cons (.ret (.comp (.ite (.var 3) (.bin .add (.lst (.cons (.ix (.var 1) (.int 2)) .nil)) (.var 5)) (.bin .add (.var 5) (.lst (.cons (.ix (.var 1) (.int 2)) .nil)))) (.v 5) (.seq (.var 0)) [5]))
  .nil))))))), []⟩
def f197_law_run : Fn := ⟨[[114, 111, 119, 115], [115, 116, 101, 112, 115], [112, 111, 115, 105, 116, 105, 111, 110], [115, 116, 101, 112]], 2, [],
  (.cons (.for_ (.t (.cons (.v 2) (.cons (.v 3) .nil))) (.enum (.var 1))
  (.cons (.set (.v 0) (.call 196 (.cons (.var 0) (.cons (.var 3) .nil))))
  (.cons (.ifs (.isN false (.var 0))
  (.cons (.ret (.lst (.cons .non (.cons (.var 2) .nil))))
  .nil)
  .nil)
  .nil)))
  (.cons (.ret (.lst (.cons (.var 0) (.cons .non .nil))))
  .nil)), []⟩
def f198_law_random_steps : Fn := ⟨[[112, 111, 111, 108], [109, 97, 110, 121], [99, 111, 108, 111, 117, 114, 115], [102, 111, 117, 110, 100], [116, 117, 114, 110], [99, 104, 111, 105, 99, 101], [115, 105, 100, 101]], 3, [0],
  (.cons (.set (.v 3) (.lst .nil))
  (.cons (.for_ (.v 4) (.rng (.var 1))
  (.cons (.par2 5 6 (.call 192 (.cons (.var 0) (.cons (.int 8) .nil))) (.ix (.lst (.cons (.str [116, 111, 112]) (.cons (.str [114, 105, 103, 104, 116]) (.cons (.str [98, 111, 116, 116, 111, 109]) (.cons (.str [108, 101, 102, 116]) .nil))))) (.call 192 (.cons (.var 0) (.cons (.int 4) .nil)))))
  (.cons (.ifs (.cmp .eq (.var 5) (.int 0))
  (.cons (.app 3 (.tup (.cons (.str [116, 117, 114, 110]) .nil)))
  .nil)
  (.cons (.ifs (.cmp .eq (.var 5) (.int 1))
  (.cons (.app 3 (.tup (.cons (.str [109, 105, 114, 114, 111, 114]) .nil)))
  .nil)
  (.cons (.ifs (.cmp .lt (.var 5) (.int 4))
  (.cons (.app 3 (.tup (.cons (.str [99, 117, 116]) (.cons (.var 6) .nil))))
  .nil)
  (.cons (.app 3 (.tup (.cons (.str [97, 100, 100]) (.cons (.var 6) (.cons (.call 192 (.cons (.var 0) (.cons (.var 2) .nil))) .nil)))))
  .nil))
  .nil))
  .nil))
  .nil)))
  (.cons (.ret (.var 3))
  .nil))), []⟩
def f199_law_random_lines : Fn := ⟨[[112, 111, 111, 108], [109, 97, 110, 121], [99, 111, 108, 111, 117, 114, 115], [102, 111, 117, 110, 100], [116, 117, 114, 110], [115, 105, 100, 101]], 3, [0],
  (.cons (.set (.v 3) (.lst .nil))
  (.cons (.for_ (.v 4) (.rng (.var 1))
  (.cons (.set (.v 5) (.ix (.lst (.cons (.str [116, 111, 112]) (.cons (.str [114, 105, 103, 104, 116]) (.cons (.str [98, 111, 116, 116, 111, 109]) (.cons (.str [108, 101, 102, 116]) .nil))))) (.call 192 (.cons (.var 0) (.cons (.int 4) .nil)))))
  (.cons (.app 3 (.tup (.cons (.var 5) (.cons (.call 192 (.cons (.var 0) (.cons (.var 2) .nil))) .nil))))
  .nil)))
  (.cons (.ret (.var 3))
  .nil))), []⟩
def f200_law_shown : Fn := ⟨[[108, 105, 110, 101, 115], [108, 105, 110, 101]], 1, [],
  (.cons (.ret (.ix (.call 197 (.cons (.call 195 (.cons (.int 2) (.cons (.int 2) (.cons (.int 100) .nil)))) (.cons (.comp (.bin .add (.tup (.cons (.str [97, 100, 100]) .nil)) (.var 1)) (.v 1) (.seq (.var 0)) [1]) .nil))) (.int 0)))
  .nil), []⟩
def f201_law_random_symmetry : Fn := ⟨[[112, 111, 111, 108]], 1, [0],
  (.cons (.ret (.ext (.new 25 1 0) (.cons (.call 192 (.cons (.var 0) (.cons (.int 4) .nil))) (.cons (.cmp .eq (.call 192 (.cons (.var 0) (.cons (.int 2) .nil))) (.int 1)) .nil))))
  .nil), []⟩
def f202_law_draw : Fn := ⟨[[112, 111, 111, 108], [99, 111, 117, 110, 116], [114, 101, 115, 117, 108, 116], [99, 101, 108, 108]], 2, [0],
  (.cons (.ifs (.cmp .eq (.ix (.var 0) (.int 2)) (.int 0))
  (.cons (.set (.v 3) (.ite (.cmp .lt (.ix (.var 0) (.int 1)) (.bi .len (.cons (.ix (.var 0) (.int 0)) .nil))) (.ix (.ix (.var 0) (.int 0)) (.ix (.var 0) (.int 1))) (.int 0)))
  (.cons (.setIx 0 (.int 1) (.bin .add (.ix (.var 0) (.int 1)) (.int 1)))
  (.cons (.ifs (.cmp .lt (.var 3) (.bin .pow (.int 10) (.int 18)))
  (.cons (.setIx 0 (.int 3) (.bin .mod (.bin .add (.bin .add (.bin .mul (.ix (.var 0) (.int 3)) (.int 48271)) (.bin .mod (.var 3) (.int 2147483629))) (.ix (.var 0) (.int 1))) (.int 2147483647)))
  (.cons (.ret (.bin .mod (.bin .fdiv (.bin .mod (.bin .mul (.ix (.var 0) (.int 3)) (.ix (.var 0) (.int 3))) (.int 2147483629)) (.int 7)) (.var 1)))
  .nil))
  .nil)
  (.cons (.setIx 0 (.int 2) (.var 3))
  .nil))))
  .nil)
  (.cons (.set (.v 2) (.bin .mod (.ix (.var 0) (.int 2)) (.var 1)))
  (.cons (.setIx 0 (.int 2) (.bin .fdiv (.ix (.var 0) (.int 2)) (.var 1)))
  (.cons (.ret (.var 2))
  .nil)))), []⟩
def f203_law_base : Fn := ⟨[[112, 111, 111, 108]], 1, [0],
  (.cons (.ret (.ix (.lst (.cons (.int 0) (.cons (.int 7) (.cons (.bin .pow (.int 10) (.int 25)) .nil)))) (.call 202 (.cons (.var 0) (.cons (.int 3) .nil)))))
  .nil), []⟩
def f204_law_steps : Fn := ⟨[[112, 111, 111, 108], [99, 111, 117, 110, 116], [98, 97, 115, 101], [115, 116, 101, 112, 115], [107], [119, 97, 121], [115, 105, 100, 101]], 3, [0],
  (.cons (.set (.v 3) (.lst .nil))
  (.cons (.for_ (.v 4) (.rng (.var 1))
  (.cons (.set (.v 5) (.call 202 (.cons (.var 0) (.cons (.int 8) .nil))))
  (.cons (.set (.v 6) (.ix (.lst (.cons (.str [116, 111, 112]) (.cons (.str [114, 105, 103, 104, 116]) (.cons (.str [98, 111, 116, 116, 111, 109]) (.cons (.str [108, 101, 102, 116]) .nil))))) (.call 202 (.cons (.var 0) (.cons (.int 4) .nil)))))
  (.cons (.ifs (.cmp .lt (.var 5) (.int 2))
  (.cons (.app 3 (.ix (.lst (.cons (.tup (.cons (.str [116, 117, 114, 110]) .nil)) (.cons (.tup (.cons (.str [109, 105, 114, 114, 111, 114]) .nil)) .nil))) (.var 5)))
  .nil)
  (.cons (.ifs (.cmp .lt (.var 5) (.int 5))
  (.cons (.app 3 (.tup (.cons (.str [99, 117, 116]) (.cons (.var 6) .nil))))
  .nil)
  (.cons (.app 3 (.tup (.cons (.str [97, 100, 100]) (.cons (.var 6) (.cons (.bin .add (.var 2) (.call 202 (.cons (.var 0) (.cons (.int 3) .nil)))) .nil)))))
  .nil))
  .nil))
  .nil))))
  (.cons (.ret (.var 3))
  .nil))), []⟩
def f205_law_after : Fn := ⟨[[103, 114, 105, 100], [115, 116, 101, 112], [115, 105, 100, 101], [108, 105, 110, 101], [114, 111, 119], [97, 116]], 2, [],
  (.cons (.ifs (.cmp .eq (.ix (.var 1) (.int 0)) (.str [116, 117, 114, 110]))
  (.cons (.ret (.comp (.bi .tuple (.cons (.comp (.ix (.var 4) (.var 5)) (.v 4) (.seq (.rev (.var 0))) [4]) .nil)) (.v 5) (.rng (.bi .len (.cons (.ix (.var 0) (.int 0)) .nil))) [5]))
  .nil)
  .nil)
  (.cons (.ifs (.cmp .eq (.ix (.var 1) (.int 0)) (.str [109, 105, 114, 114, 111, 114]))
  (.cons (.ret (.comp (.rev (.var 4)) (.v 4) (.seq (.var 0)) [4]))
  .nil)
  .nil)
  (.cons (.set (.v 2) (.ix (.var 1) (.int 1)))
  (.cons (.ifs (.cmp .eq (.ix (.var 1) (.int 0)) (.str [99, 117, 116]))
  (.cons (.ifs (.cmp .eq (.ite (.inn false (.var 2) (.lst (.cons (.str [116, 111, 112]) (.cons (.str [98, 111, 116, 116, 111, 109]) .nil)))) (.bi .len (.cons (.var 0) .nil)) (.bi .len (.cons (.ix (.var 0) (.int 0)) .nil))) (.int 1))
  (.cons (.ret .non)
  .nil)
  .nil)
  (.cons (.ifs (.inn false (.var 2) (.lst (.cons (.str [116, 111, 112]) (.cons (.str [98, 111, 116, 116, 111, 109]) .nil))))
  (.cons (.ret (.ite (.cmp .eq (.var 2) (.str [116, 111, 112])) (.sl (.var 0) (.yes (.int 1)) .no) (.sl (.var 0) .no (.yes (.neg (.int 1))))))
  .nil)
  .nil)
  (.cons (.ret (.comp (.ite (.cmp .eq (.var 2) (.str [108, 101, 102, 116])) (.sl (.var 4) (.yes (.int 1)) .no) (.sl (.var 4) .no (.yes (.neg (.int 1))))) (.v 4) (.seq (.var 0)) [4]))
  .nil)))
  .nil)
  (.cons (.set (.v 3) (.bin .mul (.tup (.cons (.ix (.var 1) (.int 2)) .nil)) (.bi .len (.cons (.ix (.var 0) (.int 0)) .nil))))
  (.cons (.ifs (.inn false (.var 2) (.lst (.cons (.str [116, 111, 112]) (.cons (.str [98, 111, 116, 116, 111, 109]) .nil))))
  (.cons (.ret (.ite (.cmp .eq (.var 2) (.str [116, 111, 112])) (.bin .add (.lst (.cons (.var 3) .nil)) (.var 0)) (.bin .add (.var 0) (.lst (.cons (.var 3) .nil)))))
  .nil)
  .nil)
  (.cons (.ret (.comp (.ite (.cmp .eq (.var 2) (.str [108, 101, 102, 116])) (.bin .add (.tup (.cons (.ix (.var 1) (.int 2)) .nil)) (.var 4)) (.bin .add (.var 4) (.tup (.cons (.ix (.var 1) (.int 2)) .nil)))) (.v 4) (.seq (.var 0)) [4]))
  .nil))))))), []⟩
def f206_law_run : Fn := ⟨[[103, 114, 105, 100], [115, 116, 101, 112, 115], [99, 117, 114, 114, 101, 110, 116], [105, 110, 100, 101, 120]], 2, [],
  (.cons (.set (.v 2) (.var 0))
  (.cons (.for_ (.v 3) (.rng (.bi .len (.cons (.var 1) .nil)))
  (.cons (.set (.v 2) (.call 205 (.cons (.var 2) (.cons (.ix (.var 1) (.var 3)) .nil))))
  (.cons (.ifs (.isN false (.var 2))
  (.cons (.ret (.lst (.cons .non (.cons (.var 3) .nil))))
  .nil)
  .nil)
  .nil)))
  (.cons (.ret (.lst (.cons (.var 2) (.cons .non .nil))))
  .nil))), []⟩
def f207_law_cells : Fn := ⟨[[104, 101, 105, 103, 104, 116], [119, 105, 100, 116, 104], [102, 105, 114, 115, 116], [97, 116], [112, 108, 97, 99, 101]], 3, [],
  (.cons (.ret (.comp (.bi .tuple (.cons (.comp (.bin .add (.bin .add (.var 2) (.bin .mul (.var 3) (.var 1))) (.var 4)) (.v 4) (.rng (.var 1)) [4]) .nil)) (.v 3) (.rng (.var 0)) [3]))
  .nil), []⟩
def f208_law_grid : Fn := ⟨[[112, 111, 111, 108], [104, 101, 105, 103, 104, 116], [119, 105, 100, 116, 104], [98, 97, 115, 101], [99, 111, 117, 110, 116], [97, 116], [112, 108, 97, 99, 101]], 5, [0],
  (.cons (.ret (.comp (.bi .tuple (.cons (.comp (.bin .add (.var 3) (.call 202 (.cons (.var 0) (.cons (.var 4) .nil)))) (.v 6) (.rng (.var 2)) [6]) .nil)) (.v 5) (.rng (.var 1)) [5]))
  .nil), []⟩
def f209_law_number : Fn := ⟨[[97, 116], [102, 105, 114, 115, 116], [108, 97, 115, 116]], 3, [],
  (.cons (.ret (.ite (.cmp .lt (.var 0) (.var 1)) (.bin .sub (.var 0) (.var 1)) (.bi .max2 (.cons (.bin .sub (.var 0) (.var 2)) (.cons (.int 0) .nil)))))
  .nil), []⟩
def f210_law_symmetry : Fn := ⟨[[103, 114, 105, 100], [99, 111, 114, 101], [109, 105, 114, 114, 111, 114, 115], [116, 117, 114, 110, 115]], 2, [],
  (.cons (.for_ (.v 2) (.rng (.int 2))
  (.cons (.for_ (.v 3) (.rng (.int 4))
  (.cons (.ifs (.cmp .eq (.ix (.call 206 (.cons (.var 0) (.cons (.bin .add (.bin .mul (.lst (.cons (.tup (.cons (.str [109, 105, 114, 114, 111, 114]) .nil)) .nil)) (.var 2)) (.bin .mul (.lst (.cons (.tup (.cons (.str [116, 117, 114, 110]) .nil)) .nil)) (.var 3))) .nil))) (.int 0)) (.var 1))
  (.cons (.ret (.tup (.cons (.var 3) (.cons (.cmp .eq (.var 2) (.int 1)) .nil))))
  .nil)
  .nil)
  .nil))
  .nil))
  (.cons (.ret .non)
  .nil)), []⟩
def f212_law_is_effect : Fn := ⟨[[101, 102, 102, 101, 99, 116], [112, 97, 114, 116, 115], [110, 97, 109, 101]], 2, [],
  (.cons (.ifs (.cmp .ne (.lst (.cons (.tup (.cons (.prop 27 1 (.prop 71 3 (.var 0))) (.cons (.prop 28 1 (.prop 71 3 (.var 0))) .nil))) (.cons (.prop 72 3 (.var 0)) (.cons (.prop 79 2 (.prop 73 3 (.var 0))) .nil)))) (.sl (.var 1) .no (.yes (.int 3))))
  (.cons (.ret (.bl false))
  .nil)
  .nil)
  (.cons (.ret (.cmp .eq (.compIf (.var 2) (.v 2) (.seq (.ix (.var 1) (.int 3))) (.cmp .ne (.meth 56 2 0 (.prop 73 3 (.var 0)) (.cons (.ix (.var 2) (.int 0)) (.cons (.ix (.var 2) (.int 1)) .nil))) (.ix (.ix (.var 1) (.int 3)) (.var 2))) [2]) (.lst .nil)))
  .nil)), []⟩
def f213_law_border : Fn := ⟨[[103, 114, 105, 100], [119, 105, 110, 100, 111, 119], [115, 105, 100, 101], [116, 111, 112], [114, 105, 103, 104, 116], [98, 111, 116, 116, 111, 109], [108, 101, 102, 116], [97, 116]], 3, [],
  (.cons (.set (.t (.cons (.v 3) (.cons (.v 4) (.cons (.v 5) (.cons (.v 6) .nil))))) (.var 1))
  (.cons (.ifs (.inn false (.var 2) (.lst (.cons (.str [116, 111, 112]) (.cons (.str [98, 111, 116, 116, 111, 109]) .nil))))
  (.cons (.ret (.bi .list (.cons (.sl (.ix (.var 0) (.ite (.cmp .eq (.var 2) (.str [116, 111, 112])) (.var 3) (.var 5))) (.yes (.var 6)) (.yes (.bin .add (.var 4) (.int 1)))) .nil)))
  .nil)
  .nil)
  (.cons (.ret (.comp (.ix (.ix (.var 0) (.var 7)) (.ite (.cmp .eq (.var 2) (.str [108, 101, 102, 116])) (.var 6) (.var 4))) (.v 7) (.rng2 (.var 3) (.bin .add (.var 5) (.int 1))) [7]))
  .nil))), []⟩
def f214_law_smaller : Fn := ⟨[[119, 105, 110, 100, 111, 119], [115, 105, 100, 101], [116, 111, 112], [114, 105, 103, 104, 116], [98, 111, 116, 116, 111, 109], [108, 101, 102, 116]], 2, [],
  (.cons (.set (.t (.cons (.v 2) (.cons (.v 3) (.cons (.v 4) (.cons (.v 5) .nil))))) (.var 0))
  (.cons (.ifs (.inn false (.var 1) (.lst (.cons (.str [116, 111, 112]) (.cons (.str [98, 111, 116, 116, 111, 109]) .nil))))
  (.cons (.ret (.ite (.cmp .eq (.var 1) (.str [116, 111, 112])) (.tup (.cons (.bin .add (.var 2) (.int 1)) (.cons (.var 3) (.cons (.var 4) (.cons (.var 5) .nil))))) (.tup (.cons (.var 2) (.cons (.var 3) (.cons (.bin .sub (.var 4) (.int 1)) (.cons (.var 5) .nil)))))))
  .nil)
  .nil)
  (.cons (.ret (.ite (.cmp .eq (.var 1) (.str [114, 105, 103, 104, 116])) (.tup (.cons (.var 2) (.cons (.bin .sub (.var 3) (.int 1)) (.cons (.var 4) (.cons (.var 5) .nil))))) (.tup (.cons (.var 2) (.cons (.var 3) (.cons (.var 4) (.cons (.bin .add (.var 5) (.int 1)) .nil)))))))
  .nil))), []⟩
def f216_law_inside : Fn := ⟨[[103, 114, 105, 100], [119, 105, 110, 100, 111, 119], [116, 111, 112], [114, 105, 103, 104, 116], [98, 111, 116, 116, 111, 109], [108, 101, 102, 116], [114, 111, 119]], 2, [],
  (.cons (.set (.t (.cons (.v 2) (.cons (.v 3) (.cons (.v 4) (.cons (.v 5) .nil))))) (.var 1))
  (.cons (.ret (.comp (.sl (.var 6) (.yes (.var 5)) (.yes (.bin .add (.var 3) (.int 1)))) (.v 6) (.seq (.sl (.var 0) (.yes (.var 2)) (.yes (.bin .add (.var 4) (.int 1))))) [6]))
  .nil)), []⟩
def f217_law_margins : Fn := ⟨[[104, 101, 105, 103, 104, 116], [119, 105, 100, 116, 104], [102, 111, 117, 110, 100], [116, 111, 112], [114, 105, 103, 104, 116], [98, 111, 116, 116, 111, 109], [108, 101, 102, 116]], 2, [],
  (.cons (.set (.v 2) (.lst .nil))
  (.cons (.for_ (.v 3) (.rng (.var 0))
  (.cons (.for_ (.v 4) (.rng (.var 1))
  (.cons (.for_ (.v 5) (.rng (.bin .sub (.var 0) (.var 3)))
  (.cons (.set (.v 2) (.bin .add (.var 2) (.comp (.tup (.cons (.var 3) (.cons (.var 4) (.cons (.var 5) (.cons (.var 6) .nil))))) (.v 6) (.rng (.bin .sub (.var 1) (.var 4))) [6])))
  .nil))
  .nil))
  .nil))
  (.cons (.ret (.var 2))
  .nil))), []⟩
def f218_law_shows : Fn := ⟨[[102, 114, 97, 109, 101], [119, 105, 115, 104, 101, 115], [119, 105, 115, 104]], 2, [],
  (.cons (.ret (.cmp .eq (.compIf (.var 2) (.v 2) (.seq (.var 1)) (.cmp .ne (.meth 56 2 0 (.var 0) (.cons (.ix (.var 2) (.int 0)) (.cons (.ix (.var 2) (.int 1)) .nil))) (.ix (.var 2) (.int 2))) [2]) (.lst .nil)))
  .nil), []⟩
def f219_law_user : Fn := ⟨[[112, 111, 111, 108]], 1, [0],
  (.cons (.ret (.ix (.lst (.cons (.str [97, 110, 110]) (.cons (.str [98, 111]) (.cons (.str [122]) (.cons (.str [97, 98, 99, 100, 101, 102, 103, 104]) .nil))))) (.call 202 (.cons (.var 0) (.cons (.int 4) .nil)))))
  .nil), []⟩
end PF.Lib
set_option Elab.async false
set_option linter.all false
set_option maxRecDepth 100000
/-! PG, part 1: the evaluator in continuation form: whnf runs it, and stops at symbolic tests, at calls, at loops over symbolic lists. -/
namespace PF
open PySem
/-- a test -/
inductive wB : Bool → Prop → Prop → Prop where
  | t {p q : Prop} : p → wB true p q
  | f {p q : Prop} : q → wB false p q
def wO {α : Type} (o : Option α) (k : α → Prop) : Prop := match o with
  | some a => k a
  | none => False
def sat {α : Type} (r : Res α) (K : α → S → Prop) (X : PExc → S → Prop) : Prop := match r with
  | .ok a s => K a s
  | .exc e s => X e s
  | .bad => False
/-- a loop is not run by itself -/
inductive Seal (p : Prop) : Prop where
  | mk : p → Seal p
/-- a call's answer -/
inductive wC (r : Res OV) (K : OV → List OV → Prop) (X : PExc → List OV → Prop) : Prop where
  | ok (a : OV) (s : List OV) : r = .ok a s → K a s → wC r K X
  | exc (e : PExc) (s : List OV) : r = .exc e s → X e s → wC r K X
/-- the state's places are brought to their heads -/
def forceO (o : OV) (k : OV → Prop) : Prop := match o with
  | .emp => k .emp
  | .sh v => k (.sh v)
  | .lst xs => k (.lst xs)
  | .obj c fs => k (.obj c fs)
  | .kls c => k (.kls c)
def forceS : S → (S → Prop) → Prop
  | [], k => k []
  | o :: s, k => forceS s fun s' => k (o :: s')
structure CR (α : Type) where
  run : (α → S → Prop) → (PExc → S → Prop) → Prop
namespace CR
def ok {α : Type} (a : α) (s : S) : CR α := ⟨fun K _ => forceS s fun s' => K a s'⟩
def exc {α : Type} (e : PExc) (s : S) : CR α := ⟨fun _ X => X e s⟩
def bad {α : Type} : CR α := ⟨fun _ _ => False⟩
def bind {α β : Type} (c : CR α) (k : α → S → CR β) : CR β := ⟨fun K X => c.run (fun a s => (k a s).run K X) X⟩
def opt {α : Type} (o : Option α) (s : S) : CR α := ⟨fun K _ => wO o fun a => K a s⟩
def ite {α : Type} (b : Bool) (c d : CR α) : CR α := ⟨fun K X => wB b (c.run K X) (d.run K X)⟩
def lift {α : Type} (r : Res α) : CR α := ⟨fun K X => sat r (fun a s => forceS s fun s' => K a s') X⟩
def noX {α : Type} (c : CR α) : CR α := ⟨fun K _ => c.run K fun _ _ => False⟩
def onS {α : Type} (g : S → S) (c : CR α) : CR α := ⟨fun K X => c.run (fun a s => forceS (g s) fun s' => K a s') fun e s => X e (g s)⟩
def call (r : Res OV) (g : List OV → S) : CR OV := ⟨fun K X => wC r (fun o outs => forceS (g outs) fun s' => K o s') fun e outs => X e (g outs)⟩
end CR
def wfrzR (r : CR OV) : CR PV := r.bind fun o s => CR.opt o.pv s
def wargR (e : Ex) (fe : S → CR OV) (b : Bool) (s : S) : CR CA := match e with
  | .var i => if (getO s i).own && b then .ok (.s i) s else (fe s).bind fun o s' => (CR.opt o.pv s').bind fun v s'' => .ok (.v v) s''
  | _ => (fe s).bind fun o s' => (CR.opt o.pv s').bind fun v s'' => .ok (.v v) s''
def wpeek (a : Ex) (fa : S → CR OV) (s : S) : CR PV := match a with
  | .var i => CR.opt (getV s i) s
  | _ => wfrzR (fa s)
def wlate {α : Type} (a : Ex) (fa : S → CR OV) (k : S → CR α) (s : S) : CR (PV × α) := match a with
  | .var i => (CR.opt (getV s i) s).bind fun _ s0 => (k s0).bind fun y s' => (CR.opt (getV s' i) s').bind fun x s'' => .ok (x, y) s''
  | _ => (wfrzR (fa s)).bind fun x s1 => (k s1).bind fun y s2 => .ok (x, y) s2
def wboolR (r : CR Bool) : CR OV := r.bind fun k s => .ok (.sh (.bl k)) s
def wvalR (r : CR PV) : CR OV := r.bind fun v s => .ok (.sh v) s
def wopenSeq (e : Ex) (fe : S → CR OV) (s : S) : CR (PV × Lk) := match e with
  | .var i => (CR.opt (getV s i) s).bind fun v s' => match (getO s i).own with
    | true => .ok (v, some (i, getO s i)) s'
    | false => .ok (v, none) s'
  | _ => (wfrzR (fe s)).bind fun v s' => .ok (v, none) s'
def wintR (r : CR PV) : CR Int := r.bind fun v s => match v with
  | .int i => .ok i s
  | _ => .bad
def wcompL0 (own : List Nat) (body : PV → S → CR (Option PV)) : List PV → List PV → S → CR (List PV)
  | [], acc, s => .ok acc s
  | x :: xs, acc, s => ((body x (wipeS s own)).noX).bind fun o s' => match o with
    | some y => wcompL0 own body xs (acc ++ [y]) s'
    | none => wcompL0 own body xs acc s'
def wcompL (own : List Nat) (body : PV → S → CR (Option PV)) (xs acc : List PV) (s : S) : CR (List PV) := ⟨fun K X => Seal ((wcompL0 own body xs acc s).run K X)⟩
def wasgR (tg : Tg) (x : PV) (s : S) : CR Unit := CR.lift (asgR tg x s)
def wcompR (own : List Nat) (body : PV → S → CR (Option PV)) (q : CR (List PV × Lk)) : CR OV :=
  q.bind fun p s1 => match p with
    | (xs, lk) => CR.ite (plainAt s1 own && decide (xs.length ≤ big)) ((wcompL own body xs [] (wipeS (lockO lk s1) own)).bind fun ys s2 => .ok (.lst ys) (unlock lk (back s1 own s2))) .bad
def wcalm_ (r : Res OV) (s : S) : CR OV := (CR.call r fun _ => s).noX
def wmade (c : Nat) (r : Res OV) (s : S) : CR OV := ⟨fun K X => wC r (fun o outs => sat (madeV c (.ok o outs) s) (fun a s => forceS s fun s' => K a s') X) fun e _ => X e s⟩
def wxev (Γ : Env) : XO → List PV → S → CR OV
  | .stat f _ n, vs, s => CR.call (Γ.rho f (shs (vs ++ lastN n (Γ.dfl f)))) fun _ => s
  | .kmeth f c n, vs, s => CR.call (Γ.rho f (.kls c :: shs (vs ++ lastN n (Γ.dfl f)))) fun _ => s
  | .new f c n, vs, s => wmade c (Γ.rho f (.obj c [] :: shs (vs ++ lastN n (Γ.dfl f)))) s
  | .newK _ f c n, vs, s => wmade c (Γ.rho f (.obj c [] :: shs (vs ++ lastN n (Γ.dfl f)))) s
def wmethV (Γ : Env) (f c n : Nat) (v : PV) (vs : List PV) (s : S) : CR OV := CR.call (Γ.rho f (shs (v :: (vs ++ lastN n (Γ.dfl f))))) fun _ => s
def wpopR (i : Nat) (j : Option Int) (s : S) : CR OV := CR.lift (popR i j s)
def wsetV (cs : List Nat) (i : Nat) (o : OV) (s : S) : CR Fl := CR.lift (setV cs i o s)
def wasgF (cs : List Nat) (t : Tg) (v : PV) (s : S) : CR Fl := CR.lift (asgF cs t v s)
def wappR (i : Nat) (v : PV) (s : S) : CR Fl := CR.lift (appR i v s)
def wsetIxR (i : Nat) (k v : PV) (s : S) : CR Fl := CR.lift (setIxR i k v s)
def wsetFldR (c i k : Nat) (v : PV) (s : S) : CR Fl := CR.lift (setFldR c i k v s)
def wunlockR (l : Lk) (c : CR Fl) : CR Fl := c.onS (unlock l)
def wforL0 (turn : PV → S → CR Fl) : List PV → S → CR Fl
  | [], s => .ok .nx s
  | x :: xs, s => (turn x s).bind fun f s' => match f with
    | .nx => wforL0 turn xs s'
    | .ct => wforL0 turn xs s'
    | .bk => .ok .nx s'
    | .rt o => .ok (.rt o) s'
def wforL (turn : PV → S → CR Fl) (xs : List PV) (s : S) : CR Fl := ⟨fun K X => Seal ((wforL0 turn xs s).run K X)⟩
def wwhileL0 (c : S → CR Bool) (b : S → CR Fl) : Nat → S → CR Fl
  | 0, _ => .bad
  | n + 1, s => (c s).bind fun k s1 => CR.ite k ((b s1).bind fun f s' => match f with
      | .nx => wwhileL0 c b n s'
      | .ct => wwhileL0 c b n s'
      | .bk => .ok .nx s'
      | .rt o => .ok (.rt o) s')
    (.ok .nx s1)
def wwhileL (c : S → CR Bool) (b : S → CR Fl) (n : Nat) (s : S) : CR Fl := ⟨fun K X => Seal ((wwhileL0 c b n s).run K X)⟩
def whgoneR (i : Option Nat) (c : CR Fl) : CR Fl := ⟨fun K X => c.run (fun f s => forceS (hgone i s) fun s' => K f s') X⟩
def wnoX (c : CR Fl) : CR Fl := c.noX
def wtryR (h : PExc → S → CR Fl) (c : CR Fl) : CR Fl := ⟨fun K X => c.run K fun e s => (h e s).run K X⟩
mutual
/-- an expression's value; an own object where it is new -/
def wev (Γ : Env) : Ex → S → CR OV
  | .int i, s => .ok (.sh (.int i)) s
  | .bl b, s => .ok (.sh (.bl b)) s
  | .non, s => .ok (.sh .non) s
  | .str x, s => .ok (.sh (.str x)) s
  | .var i, s => (CR.opt (getV s i) s).bind fun v s' => match (getO s i).own with
    | true => .ok (.sh v) (s'.set i (.sh v))
    | false => .ok (.sh v) s'
  | .glb g, s => (CR.opt (Γ.glb g) s).bind fun v s' => .ok (.sh v) s'
  | .tup es, s => (wevs Γ es s).bind fun vs s' => .ok (.sh (.tup vs)) s'
  | .lst es, s => (wevs Γ es s).bind fun vs s' => .ok (.lst vs) s'
  | .bin o a b, s => (wlate a (wev Γ a) (wpeek b (wev Γ b)) s).bind fun p s' => CR.opt (binop o p.1 p.2) s'
  | .neg a, s => (wintR (wfrzR (wev Γ a s))).bind fun i s' => .ok (.sh (.int (-i))) s'
  | .cmp o a b, s => (wlate a (wev Γ a) (wpeek b (wev Γ b)) s).bind fun p s' => wboolR (CR.opt (cmpop o p.1 p.2) s')
  | .chn o p a b c, s => (wfrzR (wev Γ a s)).bind fun x s1 => (wfrzR (wev Γ b s1)).bind fun y s2 => (CR.opt (cmpop o x y) s2).bind fun k s3 =>
      CR.ite k ((wfrzR (wev Γ c s3)).bind fun z s4 => wboolR (CR.opt (cmpop p y z) s4)) (.ok (.sh (.bl false)) s3)
  | .isN ng a, s => (wpeek a (wev Γ a) s).bind fun v s' => .ok (.sh (.bl (match v with | .non => !ng | _ => ng))) s'
  | .inn ng a b, s => (wlate a (wev Γ a) (wpeek b (wev Γ b)) s).bind fun p s' => wboolR ((CR.opt (inop p.1 p.2) s').bind fun k s'' => .ok (k != ng) s'')
  | .not a, s => (wpeek a (wev Γ a) s).bind fun v s' => (CR.opt (truth v) s').bind fun k s1 => .ok (.sh (.bl (!k))) s1
  | .and a b, s => (wfrzR (wev Γ a s)).bind fun v s' => (CR.opt (truth v) s').bind fun k s'' => CR.ite k (wev Γ b s'') (.ok (.sh v) s'')
  | .or a b, s => (wfrzR (wev Γ a s)).bind fun v s' => (CR.opt (truth v) s').bind fun k s'' => CR.ite k (.ok (.sh v) s'') (wev Γ b s'')
  | .ite c a b, s => (wte Γ c s).bind fun k s' => CR.ite k (wev Γ a s') (wev Γ b s')
  | .ix a b, s => (wlate a (wev Γ a) (fun s' => wfrzR (wev Γ b s')) s).bind fun p s' => wvalR (CR.opt (index p.1 p.2) s')
  | .sl a lo hi, s => (wlate a (wev Γ a) (fun s' => (wevO Γ lo s').bind fun i s1 => (wevO Γ hi s1).bind fun j s2 => .ok (i, j) s2) s).bind fun p s' =>
      CR.opt (slice p.1 p.2.1 p.2.2) s'
  | .rev a, s => (wpeek a (wev Γ a) s).bind fun v s' => CR.opt (reversed v) s'
  | .call f es, s => (wevA Γ (Γ.cst f) 0 es s).bind fun cas s1 => match takeA cas s1 with
    | none => .bad
    | some q => CR.call (Γ.rho f q.1) fun outs => putA cas outs s1 q.2
  | .bi b es, s => (wevP Γ es s).bind fun vs s' => CR.opt (bi b vs) s'
  | .isi a tys _, s => (wpeek a (wev Γ a) s).bind fun v s' => .ok (.sh (.bl (tys.any fun t => isTy t v))) s'
  | .fld c k a, s => (wpeek a (wev Γ a) s).bind fun v s' => wvalR (CR.opt (fldOf c k v) s')
  | .prop f c a, s => (wfrzR (wev Γ a s)).bind fun v s' => CR.ite (insOf c v) (wcalm_ (Γ.rho f (shs [v])) s') .bad
  | .meth f c n a es, s => (wfrzR (wev Γ a s)).bind fun v s1 => CR.ite (insOf c v) ((wevs Γ es s1).bind fun vs s2 => wmethV Γ f c n v vs s2) .bad
  | .ext o es, s => CR.ite (xok o s) ((wevs Γ es s).bind fun vs s' => wxev Γ o vs s') .bad
  | .pop i e, s => match getO s i with
    | .lst _ => (wevO Γ e s).bind fun j s' => wpopR i j s'
    | _ => .bad
  | .comp elt tg src own, s => wcompR own (fun x st => (wasgR tg x st).bind fun _ st' => (wfrzR (wev Γ elt st')).bind fun y st2 => .ok (some y) st2) (wsrcs Γ src s)
  | .compIf elt tg src c own, s => wcompR own (fun x st => (wasgR tg x st).bind fun _ st' => (wte Γ c st').bind fun k st1 =>
      CR.ite k ((wfrzR (wev Γ elt st1)).bind fun y st2 => .ok (some y) st2) (.ok none st1)) (wsrcs Γ src s)
/-- a test -/
def wte (Γ : Env) : Ex → S → CR Bool
  | .and a b, s => (wte Γ a s).bind fun k s' => CR.ite k (wte Γ b s') (.ok false s')
  | .or a b, s => (wte Γ a s).bind fun k s' => CR.ite k (.ok true s') (wte Γ b s')
  | .not a, s => (wte Γ a s).bind fun k s' => .ok (!k) s'
  | .var i, s => (CR.opt (getV s i) s).bind fun v s' => CR.opt (truth v) s'
  | .int i, s => .ok (i != 0) s
  | .bl b, s => .ok b s
  | .cmp o a b, s => (wlate a (wev Γ a) (wpeek b (wev Γ b)) s).bind fun p s' => CR.opt (cmpop o p.1 p.2) s'
  | .chn o p a b c, s => (wfrzR (wev Γ a s)).bind fun x s1 => (wfrzR (wev Γ b s1)).bind fun y s2 => (CR.opt (cmpop o x y) s2).bind fun k s3 =>
      CR.ite k ((wfrzR (wev Γ c s3)).bind fun z s4 => CR.opt (cmpop p y z) s4) (.ok false s3)
  | .isN ng a, s => (wpeek a (wev Γ a) s).bind fun v s' => .ok (match v with | .non => !ng | _ => ng) s'
  | .inn ng a b, s => (wlate a (wev Γ a) (wpeek b (wev Γ b)) s).bind fun p s' => (CR.opt (inop p.1 p.2) s').bind fun k s'' => .ok (k != ng) s''
  | .ite c a b, s => (wte Γ c s).bind fun k s' => CR.ite k (wte Γ a s') (wte Γ b s')
  | .ix a b, s => (wlate a (wev Γ a) (fun s' => wfrzR (wev Γ b s')) s).bind fun p s' => (CR.opt (index p.1 p.2) s').bind fun v s1 => CR.opt (truth v) s1
  | .call f es, s => (wevA Γ (Γ.cst f) 0 es s).bind fun cas s1 => match takeA cas s1 with
    | none => .bad
    | some q => (wfrzR (CR.call (Γ.rho f q.1) fun outs => putA cas outs s1 q.2)).bind fun v s2 => CR.opt (truth v) s2
  | .bi b es, s => (wevP Γ es s).bind fun vs s' => (wfrzR (CR.opt (bi b vs) s')).bind fun v s1 => CR.opt (truth v) s1
  | .isi a tys _, s => (wpeek a (wev Γ a) s).bind fun v s' => .ok (tys.any fun t => isTy t v) s'
  | .fld c k a, s => (wfrzR ((wpeek a (wev Γ a) s).bind fun v s' => wvalR (CR.opt (fldOf c k v) s'))).bind fun v s1 => CR.opt (truth v) s1
  | .prop f c a, s => (wfrzR ((wfrzR (wev Γ a s)).bind fun v s' => CR.ite (insOf c v) (wcalm_ (Γ.rho f (shs [v])) s') .bad)).bind fun v s1 => CR.opt (truth v) s1
  | .meth f c n a es, s => (wfrzR ((wfrzR (wev Γ a s)).bind fun v s1 => CR.ite (insOf c v) ((wevs Γ es s1).bind fun vs s2 => wmethV Γ f c n v vs s2) .bad)).bind fun v s1 => CR.opt (truth v) s1
  | .ext o es, s => (wfrzR (CR.ite (xok o s) ((wevs Γ es s).bind fun vs s' => wxev Γ o vs s') .bad)).bind fun v s1 => CR.opt (truth v) s1
  | _, _ => .bad
def wevs (Γ : Env) : Exs → S → CR (List PV)
  | .nil, s => .ok [] s
  | .cons e es, s => (wfrzR (wev Γ e s)).bind fun v s' => (wevs Γ es s').bind fun vs s'' => .ok (v :: vs) s''
/-- a built-in's arguments: one alone is read at once -/
def wevP (Γ : Env) : Exs → S → CR (List PV)
  | .nil, s => .ok [] s
  | .cons e .nil, s => (wpeek e (wev Γ e) s).bind fun v s' => .ok [v] s'
  | .cons e es, s => (wfrzR (wev Γ e s)).bind fun v s' => (wevs Γ es s').bind fun vs s'' => .ok (v :: vs) s''
def wevA (Γ : Env) (cs : List Nat) : Nat → Exs → S → CR (List CA)
  | _, .nil, s => .ok [] s
  | k, .cons e es, s => (wargR e (wev Γ e) (cs.contains k) s).bind fun c s' => (wevA Γ cs (k + 1) es s').bind fun r s'' => .ok (c :: r) s''
def wevO (Γ : Env) : Opt → S → CR (Option Int)
  | .no, s => .ok none s
  | .yes e, s => (wintR (wfrzR (wev Γ e s))).bind fun i s' => .ok (some i) s'
def wsrcs (Γ : Env) : Src → S → CR (List PV × Lk)
  | .seq e, s => (wopenSeq e (wev Γ e) s).bind fun p s' => match p with
    | (v, lk) => (CR.opt (items v) s').bind fun xs s'' => .ok (xs, lk) s''
  | .rng a, s => (wintR (wfrzR (wev Γ a s))).bind fun n s' => CR.ite (rngOk 0 n) (.ok (rngL 0 n, none) s') .bad
  | .rng2 a b, s => (wintR (wfrzR (wev Γ a s))).bind fun m s1 => (wintR (wfrzR (wev Γ b s1))).bind fun n s' => CR.ite (rngOk m n) (.ok (rngL m n, none) s') .bad
  | .enum e, s => (wopenSeq e (wev Γ e) s).bind fun p s' => match p with
    | (v, lk) => (CR.opt (items v) s').bind fun xs s'' => .ok (enumL 0 xs, lk) s''
  | .zip a b, s => (wfrzR (wev Γ a s)).bind fun x s1 => (wfrzR (wev Γ b s1)).bind fun y s2 => (CR.opt (zipP x y) s2).bind fun xs s3 => .ok (xs, none) s3
end

mutual
def whev (Γ : Env) (x : PExc) : HEx → S → CR OV
  | .int i, s => .ok (.sh (.int i)) s
  | .bl b, s => .ok (.sh (.bl b)) s
  | .non, s => .ok (.sh .non) s
  | .str t, s => .ok (.sh (.str t)) s
  | .var i, s => (CR.opt (getV s i) s).bind fun v s' => match (getO s i).own with
    | true => .ok (.sh v) (s'.set i (.sh v))
    | false => .ok (.sh v) s'
  | .fld c k, s => CR.ite (decide (x.c = c)) (CR.opt ((x.fs[k]?).map .sh) s) .bad
  | .rpr c k, s => CR.ite (decide (x.c = c)) (CR.opt ((x.fs[k]?).bind fun v => (reprV v).map fun t => .sh (.str t)) s) .bad
  | .isx c, s => CR.opt ((Γ.sub x.c c).map fun b => .sh (.bl b)) s
  | .lst es, s => (whevs Γ x es s).bind fun vs s' => .ok (.lst vs) s'
def whevs (Γ : Env) (x : PExc) : HExs → S → CR (List PV)
  | .nil, s => .ok [] s
  | .cons e es, s => (wfrzR (whev Γ x e s)).bind fun v s' => (whevs Γ x es s').bind fun vs s'' => .ok (v :: vs) s''
end
def whex (Γ : Env) (cs : List Nat) (x : PExc) : HSt → S → CR Fl
  | .ret e, s => (whev Γ x e s).bind fun o s' => .ok (.rt o) s'
  | .set i e, s => (whev Γ x e s).bind fun o s' => wsetV cs i o s'
  | .raiseN _ _, _ => .bad
  | .pass, s => .ok .nx s
def whds (Γ : Env) (cs : List Nat) (x : PExc) : Hds → S → CR Fl
  | .nil, s => .exc x s
  | .cons c i b r, s => match Γ.sub x.c c with
    | some true => (match hslot cs i s with
      | some s' => whgoneR i (wnoX (whex Γ cs x b s'))
      | none => .bad)
    | some false => whds Γ cs x r s
    | none => .bad
mutual
def wex (Γ : Env) : List Nat → St → S → CR Fl
  | _, .expr e, s => (wfrzR (wev Γ e s)).bind fun _ s' => .ok .nx s'
  | _, .app i e, s => match getO s i with
    | .lst _ => (wfrzR (wev Γ e s)).bind fun v s' => wappR i v s'
    | _ => .bad
  | cs, .set t e, s => match t with
    | .v i => (wev Γ e s).bind fun o s' => wsetV cs i o s'
    | t => (wfrzR (wev Γ e s)).bind fun v s' => wasgF cs t v s'
  | cs, .par2 i j a b, s => (wev Γ a s).bind fun x s1 => (wev Γ b s1).bind fun y s2 => (wsetV cs i x s2).bind fun _ s3 => wsetV cs j y s3
  | cs, .par3 i j k a b c, s => (wev Γ a s).bind fun x s1 => (wev Γ b s1).bind fun y s2 => (wev Γ c s2).bind fun z s3 =>
      (wsetV cs i x s3).bind fun _ s4 => (wsetV cs j y s4).bind fun _ s5 => wsetV cs k z s5
  | _, .setIx i k e, s => (wfrzR (wev Γ e s)).bind fun v s1 => match getO s1 i with
    | .lst _ => (wfrzR (wev Γ k s1)).bind fun j s2 => wsetIxR i j v s2
    | _ => .bad
  | cs, .aug i o e, s => (wintR (CR.opt (getV s i) s)).bind fun x s0 => (wintR (wfrzR (wev Γ e s0))).bind fun y s1 => (CR.opt (augop o x y) s1).bind fun z s2 => wsetV cs i (.sh (.int z)) s2
  | _, .augIx i k o e, s => match getO s i with
    | .lst _ => (wintR (wfrzR (wev Γ k s))).bind fun j s1 => (wintR (CR.opt (idxO (getO s1 i) j) s1)).bind fun x s2 =>
      (wintR (wfrzR (wev Γ e s2))).bind fun y s3 => (CR.opt (augop o x y) s3).bind fun z s4 => wsetIxR i (.int j) (.int z) s4
    | _ => .bad
  | _, .ret e, s => (wev Γ e s).bind fun o s' => .ok (.rt o) s'
  | _, .retN, s => .ok (.rt (.sh .non)) s
  | _, .pass, s => .ok .nx s
  | _, .brk, s => .ok .bk s
  | _, .cont, s => .ok .ct s
  | cs, .ifs c a b, s => (wte Γ c s).bind fun k s' => CR.ite k (wexs Γ cs a s') (wexs Γ cs b s')
  | cs, .for_ t src b, s => (wsrcs Γ src s).bind fun p s1 => match p with
    | (xs, lk) => wunlockR lk (wforL (fun x st => (wasgF (lockCs lk cs) t x st).bind fun _ st' => wexs Γ (lockCs lk cs) b st') xs (lockO lk s1))
  | cs, .while_ c b, s => wwhileL (wte Γ c) (wexs Γ cs b) wf s
  | _, .raise c es, s => (wevs Γ es s).bind fun vs s' => .exc ⟨c, vs⟩ s'
  | cs, .mtch e r, s => (wfrzR (wev Γ e s)).bind fun v s' => wexm Γ cs v r s'
  | _, .never, _ => .bad
  | _, .setFld c i k e, s => (wfrzR (wev Γ e s)).bind fun v s' => wsetFldR c i k v s'
  | cs, .tryx b hs, s => wtryR (fun x s' => whds Γ cs x hs s') (wexs Γ cs b s)
def wexs (Γ : Env) : List Nat → Sts → S → CR Fl
  | _, .nil, s => .ok .nx s
  | cs, .cons a r, s => (wex Γ cs a s).bind fun f s' => match f with
    | .nx => wexs Γ cs r s'
    | f => .ok f s'
def wexm (Γ : Env) : List Nat → PV → Cases → S → CR Fl
  | cs, _, .all b, s => wexs Γ cs b s
  | cs, v, .seq is g b r, s => match v with
    | .tup vs => CR.ite (decide (vs.length = is.length))
        (CR.ite (is.all (fun i => decide (i < s.length) && !cs.contains i)) ((wte Γ g (bindAll is vs s)).bind fun k s' => CR.ite k (wexs Γ cs b s') (wexm Γ cs v r s')) .bad)
        (wexm Γ cs v r s)
    | _ => .bad
end


end PF
set_option Elab.async false
set_option linter.all false
set_option maxRecDepth 100000
set_option maxHeartbeats 2000000
/-! PG, part 2: it is sound. -/
namespace PF
open PySem
def Snd {α : Type} (c : CR α) (r : Res α) : Prop := ∀ K X, c.run K X ↔ sat r K X
theorem wB_true {p q : Prop} : wB true p q ↔ p := ⟨fun h => by cases h; assumption, .t⟩
theorem wB_false {p q : Prop} : wB false p q ↔ q := ⟨fun h => by cases h; assumption, .f⟩
theorem forceO_iff {o : OV} {k : OV → Prop} : forceO o k ↔ k o := by cases o <;> exact Iff.rfl
theorem forceS_iff : ∀ {s : S} {k : S → Prop}, forceS s k ↔ k s
  | [], _ => Iff.rfl
  | _ :: s, k => forceS_iff (s := s)
section
variable {α β γ : Type} {s : S}
theorem sat_imp {r : Res α} {K K' : α → S → Prop} {X X' : PExc → S → Prop} (h : sat r K X) (hk : ∀ a s, K a s → K' a s) (hx : ∀ e s, X e s → X' e s) : sat r K' X' := by
  cases r with
  | ok a s => exact hk a s h
  | exc e s => exact hx e s h
  | bad => exact h
/-- the continuation may be weakened -/
theorem Snd.mono {c : CR α} {r : Res α} (h : Snd c r) {K K' : α → S → Prop} {X X' : PExc → S → Prop} (z : c.run K X) (hk : ∀ a s, K a s → K' a s) (hx : ∀ e s, X e s → X' e s) : c.run K' X' := (h _ _).mpr (sat_imp ((h _ _).mp z) hk hx)
theorem sat_force {r : Res α} {K : α → S → Prop} {X : PExc → S → Prop} : sat r (fun a s => forceS s fun s' => K a s') X ↔ sat r K X := by
  cases r <;> first | exact forceS_iff | exact Iff.rfl
theorem snd_ok {a : α} : Snd (.ok a s) (.ok a s) := fun _ _ => forceS_iff
theorem snd_bad : Snd (α := α) .bad .bad := fun _ _ => Iff.rfl
theorem snd_exc {e : PExc} : Snd (α := α) (.exc e s) (.exc e s) := fun _ _ => Iff.rfl
theorem snd_bind {c : CR α} {r : Res α} {k : α → S → CR β} {k' : α → S → Res β} (h : Snd c r) (hk : ∀ a s, Snd (k a s) (k' a s)) : Snd (c.bind k) (r.bind k') := fun K X => by
  refine (h _ _).trans ?_
  cases r with
  | ok a s1 => exact hk a s1 _ _
  | exc e s1 => exact Iff.rfl
  | bad => exact Iff.rfl
theorem snd_opt {o : Option α} : Snd (CR.opt o s) (Res.opt o s) := fun K X => by
  cases o <;> exact Iff.rfl
theorem snd_ite {b : Bool} {c d : CR α} {r q : Res α} (h1 : Snd c r) (h2 : Snd d q) : Snd (CR.ite b c d) (if b = true then r else q) := fun K X => by
  cases b with
  | true => exact wB_true.trans (h1 _ _)
  | false => exact wB_false.trans (h2 _ _)
theorem snd_iteP {p : Prop} [Decidable p] {c d : CR α} {r q : Res α} (h1 : Snd c r) (h2 : Snd d q) : Snd (CR.ite (decide p) c d) (if p then r else q) := fun K X => by
  by_cases hp : p
  · rw [if_pos hp, show decide p = true from decide_eq_true hp]
    exact wB_true.trans (h1 _ _)
  · rw [if_neg hp, show decide p = false from decide_eq_false hp]
    exact wB_false.trans (h2 _ _)
theorem snd_lift {r : Res α} : Snd (CR.lift r) r := fun _ _ => sat_force
theorem wC_iff {r : Res OV} {K : OV → List OV → Prop} {X : PExc → List OV → Prop} : wC r K X ↔ match r with
  | .ok a s => K a s
  | .exc e s => X e s
  | .bad => False := by
  constructor
  · intro h
    cases h with
    | ok a s e k => subst e; exact k
    | exc a s e k => subst e; exact k
  · intro h
    cases r with
    | ok a s => exact .ok a s rfl h
    | exc e s => exact .exc e s rfl h
    | bad => exact h.elim
theorem wC_ok {r : Res OV} {K : OV → List OV → Prop} {X : PExc → List OV → Prop} {o : OV} {outs : List OV} (h : r = .ok o outs) (k : K o outs) : wC r K X := by
  rw [wC_iff, h]; exact k
theorem wC_exc {r : Res OV} {K : OV → List OV → Prop} {X : PExc → List OV → Prop} {e : PExc} {outs : List OV} (h : r = .exc e outs) (k : X e outs) : wC r K X := by
  rw [wC_iff, h]; exact k
theorem snd_callR {r : Res OV} {cas : List CA} {s1 s2 : S} : Snd (CR.call r fun outs => putA cas outs s1 s2) (callR r cas s1 s2) := fun K X => by
  refine wC_iff.trans ?_
  cases r <;> first | exact forceS_iff | exact Iff.rfl
theorem snd_callV {r : Res OV} : Snd (CR.call r fun _ => s) (callV r s) := fun K X => by
  refine wC_iff.trans ?_
  cases r <;> first | exact forceS_iff | exact Iff.rfl
theorem snd_calm {r : Res OV} : Snd (wcalm_ r s) (calm_ r s) := fun K X => by
  refine wC_iff.trans ?_
  cases r <;> first | exact forceS_iff | exact Iff.rfl
theorem snd_made {c : Nat} {r : Res OV} : Snd (wmade c r s) (madeV c r s) := fun K X => by
  refine wC_iff.trans ?_
  cases r <;> first | exact sat_force | exact Iff.rfl
theorem snd_frz {c : CR OV} {r : Res OV} (h : Snd c r) : Snd (wfrzR c) (frzR r) := snd_bind h fun _ _ => snd_opt
theorem snd_bool {c : CR Bool} {r : Res Bool} (h : Snd c r) : Snd (wboolR c) (boolR r) := snd_bind h fun _ _ => snd_ok
theorem snd_val {c : CR PV} {r : Res PV} (h : Snd c r) : Snd (wvalR c) (valR r) := snd_bind h fun _ _ => snd_ok
theorem snd_int {c : CR PV} {r : Res PV} (h : Snd c r) : Snd (wintR c) (intR r) := snd_bind h fun v _ => by
  cases v <;> first | exact snd_ok | exact snd_bad
theorem snd_arg {e : Ex} {f : S → CR OV} {f' : S → Res OV} {b : Bool} (h : ∀ s, Snd (f s) (f' s)) : Snd (wargR e f b s) (argR e f' b s) := by
  have gen : Snd ((f s).bind fun o s' => (CR.opt o.pv s').bind fun v s'' => .ok (CA.v v) s'') ((f' s).bind fun o s' => (Res.opt o.pv s').bind fun v s'' => .ok (CA.v v) s'') := snd_bind (h s) fun _ _ => snd_bind snd_opt fun _ _ => snd_ok
  cases e <;> try exact gen
  rename_i i
  show Snd (if ((getO s i).own && b) = true then .ok (CA.s i) s else _) (if ((getO s i).own && b) = true then .ok (CA.s i) s else _)
  split
  · exact snd_ok
  · exact gen
theorem snd_peek {e : Ex} {f : S → CR OV} {f' : S → Res OV} (h : ∀ s, Snd (f s) (f' s)) : Snd (wpeek e f s) (peek e f' s) := by
  cases e <;> first | exact snd_opt | exact snd_frz (h s)
theorem snd_late {e : Ex} {f : S → CR OV} {f' : S → Res OV} {k : S → CR α} {k' : S → Res α} (h : ∀ s, Snd (f s) (f' s)) (hk : ∀ s, Snd (k s) (k' s)) : Snd (wlate e f k s) (late e f' k' s) := by
  cases e <;> first
    | exact snd_bind snd_opt fun _ _ => snd_bind (hk _) fun _ _ => snd_bind snd_opt fun _ _ => snd_ok
    | exact snd_bind (snd_frz (h s)) fun _ _ => snd_bind (hk _) fun _ _ => snd_ok
theorem snd_open {e : Ex} {f : S → CR OV} {f' : S → Res OV} (h : ∀ s, Snd (f s) (f' s)) : Snd (wopenSeq e f s) (openSeq e f' s) := by
  cases e <;> first
    | exact snd_bind (snd_frz (h s)) fun _ _ => snd_ok
    | (rename_i i
       refine snd_bind snd_opt fun v s1 => ?_
       cases (getO s i).own <;> exact snd_ok)
theorem seal_iff {p : Prop} : Seal p ↔ p := ⟨fun ⟨h⟩ => h, .mk⟩
theorem snd_seal {c : CR α} {r : Res α} (h : Snd c r) : Snd ⟨fun K X => Seal (c.run K X)⟩ r := fun K X => seal_iff.trans (h K X)
theorem snd_compL0 {own : List Nat} {b : PV → S → CR (Option PV)} {b' : PV → S → Res (Option PV)} (h : ∀ x s, Snd (b x s) (b' x s)) : ∀ (xs acc : List PV) (s : S), Snd (wcompL0 own b xs acc s) (compL own b' xs acc s)
  | [], acc, s => snd_ok
  | x :: xs, acc, s => fun K X => by
    refine (h x (wipeS s own) _ _).trans ?_
    show _ ↔ sat (match b' x (wipeS s own) with
      | .ok (some y) s' => compL own b' xs (acc ++ [y]) s'
      | .ok none s' => compL own b' xs acc s'
      | .exc _ _ => .bad
      | .bad => .bad) K X
    cases hr : b' x (wipeS s own) with
    | ok o s1 =>
      cases o with
      | none => exact snd_compL0 h xs acc s1 _ _
      | some y => exact snd_compL0 h xs _ s1 _ _
    | exc e s1 => exact Iff.rfl
    | bad => exact Iff.rfl
theorem snd_compL {own : List Nat} {b : PV → S → CR (Option PV)} {b' : PV → S → Res (Option PV)} (h : ∀ x s, Snd (b x s) (b' x s)) (xs acc : List PV) (s : S) : Snd (wcompL own b xs acc s) (compL own b' xs acc s) := snd_seal (snd_compL0 h xs acc s)
theorem snd_compR {own : List Nat} {b : PV → S → CR (Option PV)} {b' : PV → S → Res (Option PV)} {q : CR (List PV × Lk)} {q' : Res (List PV × Lk)} (h : ∀ x s, Snd (b x s) (b' x s)) (hq : Snd q q') : Snd (wcompR own b q) (compR own b' q') :=
  snd_bind hq fun p s1 => by
    obtain ⟨xs, lk⟩ := p
    exact snd_ite (snd_bind (snd_compL h _ _ _) fun _ _ => snd_ok) snd_bad
theorem snd_forL0 {t : PV → S → CR Fl} {t' : PV → S → Res Fl} (h : ∀ x s, Snd (t x s) (t' x s)) : ∀ (xs : List PV) (s : S), Snd (wforL0 t xs s) (forL t' xs s)
  | [], s => snd_ok
  | x :: xs, s => snd_bind (h x s) fun f s' => by
    cases f with
    | nx => exact snd_forL0 h xs s'
    | ct => exact snd_forL0 h xs s'
    | bk => exact snd_ok
    | rt o => exact snd_ok
theorem snd_whileL0 {c : S → CR Bool} {c' : S → Res Bool} {b : S → CR Fl} {b' : S → Res Fl} (hc : ∀ s, Snd (c s) (c' s)) (hb : ∀ s, Snd (b s) (b' s)) : ∀ (n : Nat) (s : S), Snd (wwhileL0 c b n s) (whileL c' b' n s)
  | 0, s => snd_bad
  | n + 1, s => snd_bind (hc s) fun k s1 => snd_ite (snd_bind (hb s1) fun f s' => by
    cases f with
    | nx => exact snd_whileL0 hc hb n s'
    | ct => exact snd_whileL0 hc hb n s'
    | bk => exact snd_ok
    | rt o => exact snd_ok) snd_ok
theorem snd_forL {t : PV → S → CR Fl} {t' : PV → S → Res Fl} (h : ∀ x s, Snd (t x s) (t' x s)) (xs : List PV) (s : S) : Snd (wforL t xs s) (forL t' xs s) := snd_seal (snd_forL0 h xs s)
theorem snd_whileL {c : S → CR Bool} {c' : S → Res Bool} {b : S → CR Fl} {b' : S → Res Fl} (hc : ∀ s, Snd (c s) (c' s)) (hb : ∀ s, Snd (b s) (b' s)) (n : Nat) (s : S) : Snd (wwhileL c b n s) (whileL c' b' n s) := snd_seal (snd_whileL0 hc hb n s)
theorem snd_unlock {l : Lk} {c : CR Fl} {r : Res Fl} (h : Snd c r) : Snd (wunlockR l c) (unlockR l r) := fun K X => by
  refine (h _ _).trans ?_
  cases r <;> first | exact forceS_iff | exact Iff.rfl
theorem snd_gone {i : Option Nat} {c : CR Fl} {r : Res Fl} (h : Snd c r) : Snd (whgoneR i c) (hgoneR i r) := fun K X => by
  refine (h _ _).trans ?_
  cases r <;> first | exact forceS_iff | exact Iff.rfl
theorem snd_noX {c : CR Fl} {r : Res Fl} (h : Snd c r) : Snd (wnoX c) (PF.noX r) := fun K X => by
  refine (h _ _).trans ?_
  cases r <;> exact Iff.rfl
theorem snd_try {h : PExc → S → CR Fl} {h' : PExc → S → Res Fl} {c : CR Fl} {r : Res Fl} (hh : ∀ e s, Snd (h e s) (h' e s)) (hc : Snd c r) : Snd (wtryR h c) (tryR h' r) := fun K X => by
  refine (hc _ _).trans ?_
  cases r with
  | ok f s => exact Iff.rfl
  | exc e s => exact hh e s _ _
  | bad => exact Iff.rfl
end
variable {Γ : Env}
theorem snd_if {b : Bool} {o : OV} {s s' : S} : Snd (match b with
    | true => CR.ok o s'
    | false => CR.ok o s) (Res.ok o (if b = true then s' else s)) := by
  cases b <;> exact snd_ok
theorem snd_xev (o : XO) (vs : List PV) (s : S) : Snd (wxev Γ o vs s) (xev Γ o vs s) := by
  cases o <;> first | exact snd_callV | exact snd_made
mutual
theorem sev : ∀ (e : Ex) (s : S), Snd (wev Γ e s) (ev Γ e s)
  | .int _, s => snd_ok
  | .bl _, s => snd_ok
  | .non, s => snd_ok
  | .str _, s => snd_ok
  | .var i, s => snd_bind snd_opt fun v s1 => snd_if
  | .glb _, s => snd_bind snd_opt fun _ _ => snd_ok
  | .tup es, s => snd_bind (sevs es s) fun _ _ => snd_ok
  | .lst es, s => snd_bind (sevs es s) fun _ _ => snd_ok
  | .bin _ a b, s => snd_bind (snd_late (sev a) fun _ => snd_peek (sev b)) fun _ _ => snd_opt
  | .neg a, s => snd_bind (snd_int (snd_frz (sev a s))) fun _ _ => snd_ok
  | .cmp _ a b, s => snd_bind (snd_late (sev a) fun _ => snd_peek (sev b)) fun _ _ => snd_bool snd_opt
  | .chn _ _ a b c, s => snd_bind (snd_frz (sev a s)) fun _ s1 => snd_bind (snd_frz (sev b s1)) fun _ s2 => snd_bind snd_opt fun _ s3 => snd_ite (snd_bind (snd_frz (sev c s3)) fun _ _ => snd_bool snd_opt) snd_ok
  | .isN _ a, s => snd_bind (snd_peek (sev a)) fun _ _ => snd_ok
  | .inn _ a b, s => snd_bind (snd_late (sev a) fun _ => snd_peek (sev b)) fun _ _ => snd_bool (snd_bind snd_opt fun _ _ => snd_ok)
  | .not a, s => snd_bind (snd_peek (sev a)) fun _ _ => snd_bind snd_opt fun _ _ => snd_ok
  | .and a b, s => snd_bind (snd_frz (sev a s)) fun _ _ => snd_bind snd_opt fun _ s2 => snd_ite (sev b s2) snd_ok
  | .or a b, s => snd_bind (snd_frz (sev a s)) fun _ _ => snd_bind snd_opt fun _ s2 => snd_ite snd_ok (sev b s2)
  | .ite c a b, s => snd_bind (ste c s) fun _ s1 => snd_ite (sev a s1) (sev b s1)
  | .ix a b, s => snd_bind (snd_late (sev a) fun s1 => snd_frz (sev b s1)) fun _ _ => snd_val snd_opt
  | .sl a lo hi, s => snd_bind (snd_late (sev a) fun s1 => snd_bind (sevO lo s1) fun _ s2 => snd_bind (sevO hi s2) fun _ _ => snd_ok) fun _ _ => snd_opt
  | .rev a, s => snd_bind (snd_peek (sev a)) fun _ _ => snd_opt
  | .call f es, s => snd_bind (sevA (Γ.cst f) es 0 s) fun cas s1 => by
    cases takeA cas s1 with
    | none => exact snd_bad
    | some q => exact snd_callR
  | .bi _ es, s => snd_bind (sevP es s) fun _ _ => snd_opt
  | .isi a _ _, s => snd_bind (snd_peek (sev a)) fun _ _ => snd_ok
  | .fld _ _ a, s => snd_bind (snd_peek (sev a)) fun _ _ => snd_val snd_opt
  | .prop _ _ a, s => snd_bind (snd_frz (sev a s)) fun _ _ => snd_ite snd_calm snd_bad
  | .meth _ _ _ a es, s => snd_bind (snd_frz (sev a s)) fun _ s1 => snd_ite (snd_bind (sevs es s1) fun _ _ => snd_callV) snd_bad
  | .ext o es, s => snd_ite (snd_bind (sevs es s) fun _ _ => snd_xev o _ _) snd_bad
  | .pop i e, s => by
    show Snd (match getO s i with
      | .lst _ => (wevO Γ e s).bind fun j s' => wpopR i j s'
      | _ => .bad) (match getO s i with
      | .lst _ => (evO Γ e s).bind fun j s' => popR i j s'
      | _ => .bad)
    cases getO s i <;> first | exact snd_bad | exact snd_bind (sevO e s) fun _ _ => snd_lift
  | .comp elt _ src _, s => snd_compR (fun _ _ => snd_bind snd_lift fun _ s1 => snd_bind (snd_frz (sev elt s1)) fun _ _ => snd_ok) (ssrcs src s)
  | .compIf elt _ src c _, s => snd_compR (fun _ _ => snd_bind snd_lift fun _ s1 => snd_bind (ste c s1) fun _ s2 => snd_ite (snd_bind (snd_frz (sev elt s2)) fun _ _ => snd_ok) snd_ok) (ssrcs src s)
theorem ste : ∀ (e : Ex) (s : S), Snd (wte Γ e s) (te Γ e s)
  | .and a b, s => snd_bind (ste a s) fun _ s1 => snd_ite (ste b s1) snd_ok
  | .or a b, s => snd_bind (ste a s) fun _ s1 => snd_ite snd_ok (ste b s1)
  | .not a, s => snd_bind (ste a s) fun _ _ => snd_ok
  | .var _, s => snd_bind snd_opt fun _ _ => snd_opt
  | .int _, s => snd_ok
  | .bl _, s => snd_ok
  | .cmp _ a b, s => snd_bind (snd_late (sev a) fun _ => snd_peek (sev b)) fun _ _ => snd_opt
  | .chn _ _ a b c, s => snd_bind (snd_frz (sev a s)) fun _ s1 => snd_bind (snd_frz (sev b s1)) fun _ s2 => snd_bind snd_opt fun _ s3 => snd_ite (snd_bind (snd_frz (sev c s3)) fun _ _ => snd_opt) snd_ok
  | .isN _ a, s => snd_bind (snd_peek (sev a)) fun _ _ => snd_ok
  | .inn _ a b, s => snd_bind (snd_late (sev a) fun _ => snd_peek (sev b)) fun _ _ => snd_bind snd_opt fun _ _ => snd_ok
  | .ite c a b, s => snd_bind (ste c s) fun _ s1 => snd_ite (ste a s1) (ste b s1)
  | .ix a b, s => snd_bind (snd_late (sev a) fun s1 => snd_frz (sev b s1)) fun _ _ => snd_bind snd_opt fun _ _ => snd_opt
  | .call f es, s => snd_bind (sevA (Γ.cst f) es 0 s) fun cas s1 => by
    cases takeA cas s1 with
    | none => exact snd_bad
    | some q => exact snd_bind (snd_frz snd_callR) fun _ _ => snd_opt
  | .bi _ es, s => snd_bind (sevP es s) fun _ _ => snd_bind (snd_frz snd_opt) fun _ _ => snd_opt
  | .isi a _ _, s => snd_bind (snd_peek (sev a)) fun _ _ => snd_ok
  | .fld _ _ a, s => snd_bind (snd_frz (snd_bind (snd_peek (sev a)) fun _ _ => snd_val snd_opt)) fun _ _ => snd_opt
  | .prop _ _ a, s => snd_bind (snd_frz (snd_bind (snd_frz (sev a s)) fun _ _ => snd_ite snd_calm snd_bad)) fun _ _ => snd_opt
  | .meth _ _ _ a es, s => snd_bind (snd_frz (snd_bind (snd_frz (sev a s)) fun _ s1 => snd_ite (snd_bind (sevs es s1) fun _ _ => snd_callV) snd_bad)) fun _ _ => snd_opt
  | .ext o es, s => snd_bind (snd_frz (snd_ite (snd_bind (sevs es s) fun _ _ => snd_xev o _ _) snd_bad)) fun _ _ => snd_opt
  | .non, s => snd_bad
  | .str _, s => snd_bad
  | .glb _, s => snd_bad
  | .tup _, s => snd_bad
  | .lst _, s => snd_bad
  | .bin _ _ _, s => snd_bad
  | .neg _, s => snd_bad
  | .sl _ _ _, s => snd_bad
  | .rev _, s => snd_bad
  | .pop _ _, s => snd_bad
  | .comp _ _ _ _, s => snd_bad
  | .compIf _ _ _ _ _, s => snd_bad
theorem sevs : ∀ (e : Exs) (s : S), Snd (wevs Γ e s) (evs Γ e s)
  | .nil, s => snd_ok
  | .cons e es, s => snd_bind (snd_frz (sev e s)) fun _ s1 => snd_bind (sevs es s1) fun _ _ => snd_ok
theorem sevP : ∀ (e : Exs) (s : S), Snd (wevP Γ e s) (evP Γ e s)
  | .nil, s => snd_ok
  | .cons e .nil, s => snd_bind (snd_peek (sev e)) fun _ _ => snd_ok
  | .cons e (.cons e2 es), s => snd_bind (snd_frz (sev e s)) fun _ s1 => snd_bind (sevs (.cons e2 es) s1) fun _ _ => snd_ok
theorem sevA (cs : List Nat) : ∀ (e : Exs) (k : Nat) (s : S), Snd (wevA Γ cs k e s) (evA Γ cs k e s)
  | .nil, k, s => snd_ok
  | .cons e es, k, s => snd_bind (snd_arg (sev e)) fun _ s1 => snd_bind (sevA cs es (k + 1) s1) fun _ _ => snd_ok
theorem sevO : ∀ (e : Opt) (s : S), Snd (wevO Γ e s) (evO Γ e s)
  | .no, s => snd_ok
  | .yes e, s => snd_bind (snd_int (snd_frz (sev e s))) fun _ _ => snd_ok
theorem ssrcs : ∀ (e : Src) (s : S), Snd (wsrcs Γ e s) (srcs Γ e s)
  | .seq e, s => snd_bind (snd_open (sev e)) fun p _ => match p with | (_, _) => snd_bind snd_opt fun _ _ => snd_ok
  | .rng a, s => snd_bind (snd_int (snd_frz (sev a s))) fun _ _ => snd_ite snd_ok snd_bad
  | .rng2 a b, s => snd_bind (snd_int (snd_frz (sev a s))) fun _ s1 => snd_bind (snd_int (snd_frz (sev b s1))) fun _ _ => snd_ite snd_ok snd_bad
  | .enum e, s => snd_bind (snd_open (sev e)) fun p _ => match p with | (_, _) => snd_bind snd_opt fun _ _ => snd_ok
  | .zip a b, s => snd_bind (snd_frz (sev a s)) fun _ s1 => snd_bind (snd_frz (sev b s1)) fun _ _ => snd_bind snd_opt fun _ _ => snd_ok
end
mutual
theorem shev {x : PExc} : ∀ (e : HEx) (s : S), Snd (whev Γ x e s) (hev Γ x e s)
  | .int _, s => snd_ok
  | .bl _, s => snd_ok
  | .non, s => snd_ok
  | .str _, s => snd_ok
  | .var i, s => snd_bind snd_opt fun v s1 => snd_if
  | .fld _ _, s => snd_iteP snd_opt snd_bad
  | .rpr _ _, s => snd_iteP snd_opt snd_bad
  | .isx _, s => snd_opt
  | .lst es, s => snd_bind (shevs es s) fun _ _ => snd_ok
theorem shevs {x : PExc} : ∀ (e : HExs) (s : S), Snd (whevs Γ x e s) (hevs Γ x e s)
  | .nil, s => snd_ok
  | .cons e es, s => snd_bind (snd_frz (shev e s)) fun _ s1 => snd_bind (shevs es s1) fun _ _ => snd_ok
end
theorem shex {cs : List Nat} {x : PExc} (b : HSt) (s : S) : Snd (whex Γ cs x b s) (hex Γ cs x b s) := by
  cases b with
  | ret e => exact snd_bind (shev e s) fun _ _ => snd_ok
  | set i e => exact snd_bind (shev e s) fun _ _ => snd_lift
  | raiseN _ _ => exact snd_bad
  | pass => exact snd_ok
theorem shds {cs : List Nat} {x : PExc} : ∀ (h : Hds) (s : S), Snd (whds Γ cs x h s) (hds Γ cs x h s)
  | .nil, s => snd_exc
  | .cons c i b r, s => by
    show Snd (match Γ.sub x.c c with
      | some true => (match hslot cs i s with
        | some s' => whgoneR i (wnoX (whex Γ cs x b s'))
        | none => .bad)
      | some false => whds Γ cs x r s
      | none => .bad) (match Γ.sub x.c c with
      | some true => (match hslot cs i s with
        | some s' => hgoneR i (PF.noX (hex Γ cs x b s'))
        | none => .bad)
      | some false => hds Γ cs x r s
      | none => .bad)
    cases Γ.sub x.c c with
    | none => exact snd_bad
    | some v =>
      cases v with
      | false => exact shds r s
      | true =>
        cases hslot cs i s with
        | none => exact snd_bad
        | some s' => exact snd_gone (snd_noX (shex b s'))
mutual
theorem sex : ∀ (m : St) (cs : List Nat) (s : S), Snd (wex Γ cs m s) (ex Γ cs m s)
  | .expr e, cs, s => snd_bind (snd_frz (sev e s)) fun _ _ => snd_ok
  | .app i e, cs, s => by
    show Snd (match getO s i with
      | .lst _ => (wfrzR (wev Γ e s)).bind fun v s' => wappR i v s'
      | _ => .bad) (match getO s i with
      | .lst _ => (frzR (ev Γ e s)).bind fun v s' => appR i v s'
      | _ => .bad)
    cases getO s i <;> first | exact snd_bad | exact snd_bind (snd_frz (sev e s)) fun _ _ => snd_lift
  | .set t e, cs, s => by
    cases t with
    | v i => exact snd_bind (sev e s) fun _ _ => snd_lift
    | t ts => exact snd_bind (snd_frz (sev e s)) fun _ _ => snd_lift
  | .par2 i j a b, cs, s => snd_bind (sev a s) fun _ s1 => snd_bind (sev b s1) fun _ s2 => snd_bind snd_lift fun _ _ => snd_lift
  | .par3 i j k a b c, cs, s => snd_bind (sev a s) fun _ s1 => snd_bind (sev b s1) fun _ s2 => snd_bind (sev c s2) fun _ s3 => snd_bind snd_lift fun _ _ => snd_bind snd_lift fun _ _ => snd_lift
  | .setIx i k e, cs, s => snd_bind (snd_frz (sev e s)) fun v s1 => by
    cases getO s1 i <;> first | exact snd_bad | exact snd_bind (snd_frz (sev k s1)) fun _ _ => snd_lift
  | .aug i o e, cs, s => snd_bind (snd_int snd_opt) fun _ s1 => snd_bind (snd_int (snd_frz (sev e s1))) fun _ _ => snd_bind snd_opt fun _ _ => snd_lift
  | .augIx i k o e, cs, s => by
    show Snd (match getO s i with
      | .lst _ => (wintR (wfrzR (wev Γ k s))).bind fun j s1 => (wintR (CR.opt (idxO (getO s1 i) j) s1)).bind fun x s2 =>
        (wintR (wfrzR (wev Γ e s2))).bind fun y s3 => (CR.opt (augop o x y) s3).bind fun z s4 => wsetIxR i (.int j) (.int z) s4
      | _ => .bad) (match getO s i with
      | .lst _ => (intR (frzR (ev Γ k s))).bind fun j s1 => (intR (Res.opt (idxO (getO s1 i) j) s1)).bind fun x s2 =>
        (intR (frzR (ev Γ e s2))).bind fun y s3 => (Res.opt (augop o x y) s3).bind fun z s4 => setIxR i (.int j) (.int z) s4
      | _ => .bad)
    cases getO s i <;> first | exact snd_bad | exact snd_bind (snd_int (snd_frz (sev k s))) fun _ _ => snd_bind (snd_int snd_opt) fun _ s2 => snd_bind (snd_int (snd_frz (sev e s2))) fun _ _ => snd_bind snd_opt fun _ _ => snd_lift
  | .ret e, cs, s => snd_bind (sev e s) fun _ _ => snd_ok
  | .retN, cs, s => snd_ok
  | .pass, cs, s => snd_ok
  | .brk, cs, s => snd_ok
  | .cont, cs, s => snd_ok
  | .ifs c a b, cs, s => snd_bind (ste c s) fun _ s1 => snd_ite (sexs a cs s1) (sexs b cs s1)
  | .for_ t src b, cs, s => snd_bind (ssrcs src s) fun p s1 => match p with | (_, _) => snd_unlock (snd_forL (fun x st => snd_bind snd_lift fun _ s2 => sexs b _ s2) _ _)
  | .while_ c b, cs, s => snd_whileL (ste c) (sexs b cs) _ _
  | .raise c es, cs, s => snd_bind (sevs es s) fun _ _ => snd_exc
  | .mtch e r, cs, s => snd_bind (snd_frz (sev e s)) fun v s1 => sexm r cs v s1
  | .never, cs, s => snd_bad
  | .setFld c i k e, cs, s => snd_bind (snd_frz (sev e s)) fun _ _ => snd_lift
  | .tryx b hs, cs, s => snd_try (fun _ _ => shds hs _) (sexs b cs s)
theorem sexs : ∀ (m : Sts) (cs : List Nat) (s : S), Snd (wexs Γ cs m s) (exs Γ cs m s)
  | .nil, cs, s => snd_ok
  | .cons a r, cs, s => snd_bind (sex a cs s) fun f s1 => by
    cases f <;> first | exact sexs r cs s1 | exact snd_ok
theorem sexm : ∀ (m : Cases) (cs : List Nat) (v : PV) (s : S), Snd (wexm Γ cs v m s) (exm Γ cs v m s)
  | .all b, cs, v, s => sexs b cs s
  | .seq is g b r, cs, v, s => by
    cases v <;> first | exact snd_bad | skip
    rename_i vs
    exact snd_iteP (snd_ite (snd_bind (ste g _) fun _ s1 => snd_ite (sexs b cs s1) (sexm r cs (.tup vs) s1)) snd_bad) (sexm r cs (.tup vs) s)
end
/-- a body, run -/
def wrun (Γ : Env) (fn : Fn) (args : List OV) (K : OV → List OV → Prop) (X : PExc → List OV → Prop) : Prop :=
  forceS (args ++ List.replicate (fn.nm.length - fn.np) .emp) fun s0 => (wexs Γ fn.cst fn.body s0).run (fun f s => match f with
    | .nx => K (.sh .non) (outsOf fn s)
    | .rt o => K o (outsOf fn s)
    | _ => False) fun e s => X e (outsOf fn s)
theorem wrun_ok {fn : Fn} {args : List OV} {K : OV → List OV → Prop} {X : PExc → List OV → Prop} (hl : args.length = fn.np) (h : wrun Γ fn args K X) : (∃ o outs, runBody Γ fn args = .ok o outs ∧ K o outs) ∨ ∃ e outs, runBody Γ fn args = .exc e outs ∧ X e outs := by
  have z := (sexs fn.body fn.cst _ _ _).mp (forceS_iff.mp h)
  unfold runBody
  rw [if_pos hl]
  cases hr : exs Γ fn.cst fn.body (args ++ List.replicate (fn.nm.length - fn.np) .emp) with
  | bad => rw [hr] at z; exact z.elim
  | exc e s => rw [hr] at z; exact .inr ⟨e, _, rfl, z⟩
  | ok f s =>
    rw [hr] at z
    cases f with
    | nx => exact .inl ⟨_, _, rfl, z⟩
    | rt o => exact .inl ⟨_, _, rfl, z⟩
    | bk => exact z.elim
    | ct => exact z.elim
end PF
set_option Elab.async false
set_option linter.all false
set_option maxRecDepth 100000
set_option maxHeartbeats 2000000
/-! PG, part 3: how the stops are passed: tests, loops, comprehensions. -/
namespace PF
open PySem
theorem wB_t {c : Bool} {p q : Prop} (h : c = true) (k : p) : wB c p q := by subst h; exact wB_true.mpr k
theorem wB_f {c : Bool} {p q : Prop} (h : c = false) (k : q) : wB c p q := by subst h; exact wB_false.mpr k
theorem wB_i {c : Bool} {p q : Prop} (h1 : c = true → p) (h2 : c = false → q) : wB c p q := by
  cases c with
  | true => exact wB_true.mpr (h1 rfl)
  | false => exact wB_false.mpr (h2 rfl)
theorem wO_s {α : Type} {o : Option α} {a : α} {k : α → Prop} (h : o = some a) (q : k a) : wO o k := by subst h; exact q
variable {Γ : Env} {own : List Nat} {K : OV → S → Prop} {X : PExc → S → Prop}
/-! ### own places -/
theorem wipe_at : ∀ (own : List Nat) (s : S) (j : Nat), j ∉ own → (wipeS s own)[j]? = s[j]?
  | [], s, j, _ => rfl
  | v :: vs, s, j, h => by
    show ((wipeS s vs).set v .emp)[j]? = s[j]?
    rw [List.getElem?_set_ne (fun e => h (by rw [e]; exact List.mem_cons_self)), wipe_at vs s j fun z => h (List.mem_cons_of_mem _ z)]
theorem wipe_len : ∀ (own : List Nat) (s : S), (wipeS s own).length = s.length
  | [], s => rfl
  | v :: vs, s => by
    show ((wipeS s vs).set v .emp).length = s.length
    rw [List.length_set, wipe_len vs s]
theorem back_at : ∀ (own : List Nat) (s0 s : S) (j : Nat), (back s0 own s)[j]? = if j ∈ own ∧ j < s.length then some (getO s0 j) else s[j]?
  | [], s0, s, j => by
    rw [if_neg (fun z => by cases z.1)]; rfl
  | v :: vs, s0, s, j => by
    show ((back s0 vs s).set v (getO s0 v))[j]? = _
    have hl : ∀ vs : List Nat, (back s0 vs s).length = s.length := by
      intro vs
      induction vs with
      | nil => rfl
      | cons a vs ih =>
        show ((back s0 vs s).set a (getO s0 a)).length = s.length
        rw [List.length_set, ih]
    by_cases e : j = v
    · subst e
      by_cases hj : j < s.length
      · rw [if_pos ⟨List.mem_cons_self, hj⟩, List.getElem?_set_self (by rw [hl]; exact hj)]
      · rw [if_neg (fun z => hj z.2), List.getElem?_eq_none (by rw [List.length_set, hl]; omega), List.getElem?_eq_none (by omega)]
    · rw [List.getElem?_set_ne (Ne.symm e), back_at vs s0 s j]
      by_cases h : j ∈ vs ∧ j < s.length
      · rw [if_pos h, if_pos ⟨List.mem_cons_of_mem _ h.1, h.2⟩]
      · rw [if_neg h, if_neg]
        intro z
        rcases List.mem_cons.mp z.1 with q | q
        · exact e q
        · exact h ⟨q, z.2⟩
theorem back_eq {s0 s : S} (h : wipeS s own = wipeS s0 own) : back s0 own s = s0 := by
  have hl : s.length = s0.length := by rw [← wipe_len own s, h, wipe_len]
  refine List.ext_getElem? fun j => ?_
  rw [back_at]
  by_cases z : j ∈ own ∧ j < s.length
  · rw [if_pos z]
    have hj : j < s0.length := by omega
    unfold getO
    rw [List.getD, List.getElem?_eq_getElem hj]
    rfl
  · rw [if_neg z]
    by_cases hm : j ∈ own
    · have : ¬ j < s.length := fun q => z ⟨hm, q⟩
      rw [List.getElem?_eq_none (by omega), List.getElem?_eq_none (by omega)]
    · rw [← wipe_at own s j hm, h, wipe_at own s0 j hm]
/-! ### comprehensions -/
abbrev cBody (Γ : Env) (tg : Tg) (elt : Ex) : PV → S → CR (Option PV) := fun x st => (wasgR tg x st).bind fun _ st' => (wfrzR (wev Γ elt st')).bind fun y st2 => .ok (some y) st2
abbrev cBodyIf (Γ : Env) (tg : Tg) (elt c : Ex) : PV → S → CR (Option PV) := fun x st => (wasgR tg x st).bind fun _ st' => (wte Γ c st').bind fun k st1 => CR.ite k ((wfrzR (wev Γ elt st1)).bind fun y st2 => .ok (some y) st2) (.ok none st1)
theorem snd_cBody {tg : Tg} {elt : Ex} (x : PV) (s : S) : ∃ r, Snd (cBody Γ tg elt x s) r := ⟨_, snd_bind snd_lift fun _ s1 => snd_bind (snd_frz (sev elt s1)) fun _ _ => snd_ok⟩
theorem snd_cBodyIf {tg : Tg} {elt c : Ex} (x : PV) (s : S) : ∃ r, Snd (cBodyIf Γ tg elt c x s) r := ⟨_, snd_bind snd_lift fun _ s1 => snd_bind (ste c s1) fun _ s2 => snd_ite (snd_bind (snd_frz (sev elt s2)) fun _ _ => snd_ok) snd_ok⟩
/-- each turn gives f x (or nothing), and leaves the other places -/
theorem compL_fm {b : PV → S → CR (Option PV)} (hb : ∀ x s, ∃ r, Snd (b x s) r) (f : PV → Option PV) {s0 : S} : ∀ (xs acc : List PV) (s : S) (K : List PV → S → Prop) (X : PExc → S → Prop), wipeS s own = s0 →
    (∀ x, x ∈ xs → (b x s0).run (fun o s2 => o = f x ∧ wipeS s2 own = s0) fun _ _ => False) → (∀ s2, wipeS s2 own = s0 → K (acc ++ xs.filterMap f) s2) → (wcompL0 own b xs acc s).run K X
  | [], acc, s, K, X, h, _, hk => by
    have z := hk s h
    rw [List.filterMap_nil, List.append_nil] at z
    exact forceS_iff.mpr z
  | x :: xs, acc, s, K, X, h, ht, hk => by
    obtain ⟨r, hr⟩ := hb x s0
    have z := ht x List.mem_cons_self
    show (b x (wipeS s own)).run _ _
    rw [h]
    refine hr.mono z (fun o s2 q => ?_) fun _ _ q => q
    obtain ⟨q1, q2⟩ := q
    subst q1
    cases hf : f x with
    | none =>
      rw [List.filterMap_cons_none hf] at hk
      exact compL_fm hb f xs acc s2 K X q2 (fun y hy => ht y (List.mem_cons_of_mem _ hy)) hk
    | some y =>
      rw [List.filterMap_cons_some hf] at hk
      exact compL_fm hb f xs (acc ++ [y]) s2 K X q2 (fun y hy => ht y (List.mem_cons_of_mem _ hy)) fun s3 q3 => by
        have z := hk s3 q3
        rw [List.append_cons] at z
        exact z
theorem wipe_twice (own : List Nat) (s1 : S) : wipeS (wipeS s1 own) own = wipeS s1 own := by
  refine List.ext_getElem? fun j => ?_
  by_cases h : j ∈ own
  · have key : ∀ (own : List Nat) (s s' : S), s.length = s'.length → j ∈ own → (wipeS s own)[j]? = (wipeS s' own)[j]? := by
      intro own
      induction own with
      | nil => intro s s' _ z; cases z
      | cons v vs ih =>
        intro s s' hl z
        show ((wipeS s vs).set v .emp)[j]? = ((wipeS s' vs).set v .emp)[j]?
        by_cases e : v = j
        · subst e
          by_cases hj : v < s.length
          · rw [List.getElem?_set_self (by rw [wipe_len]; exact hj), List.getElem?_set_self (by rw [wipe_len]; omega)]
          · rw [List.getElem?_eq_none (by rw [List.length_set, wipe_len]; omega), List.getElem?_eq_none (by rw [List.length_set, wipe_len]; omega)]
        · rw [List.getElem?_set_ne e, List.getElem?_set_ne e]
          exact ih s s' hl ((List.mem_cons.mp z).resolve_left (Ne.symm e))
    exact key own _ _ (wipe_len _ _) h
  · rw [wipe_at _ _ _ h]
/-- [elt for tg in xs], nothing locked -/
theorem comp_map {tg : Tg} {elt : Ex} {s1 : S} {xs : List PV} (f : PV → PV) (ht : ∀ x, x ∈ xs → (cBody Γ tg elt x (wipeS s1 own)).run (fun o s2 => o = some (f x) ∧ wipeS s2 own = wipeS s1 own) fun _ _ => False) (hk : K (.lst (xs.map f)) s1) :
    Seal ((wcompL0 own (cBody Γ tg elt) xs [] (wipeS s1 own)).run (fun ys s2 => (CR.ok (OV.lst ys) (back s1 own s2)).run K X) X) := by
  refine .mk ?_
  have hw := wipe_twice own s1
  refine compL_fm (own := own) (s0 := wipeS s1 own) snd_cBody (fun x => some (f x)) xs [] _ _ X hw ht fun s2 h2 => ?_
  refine forceS_iff.mpr ?_
  rw [back_eq h2, List.nil_append, List.filterMap_eq_map']
  exact hk
/-! ### for -/
abbrev fTurn (Γ : Env) (cs : List Nat) (t : Tg) (b : Sts) : PV → S → CR Fl := fun x st => (wasgF cs t x st).bind fun _ st' => wexs Γ cs b st'
theorem for_inv0 {cs : List Nat} {t : Tg} {b : Sts} (I : List PV → S → Prop) {K : Fl → S → Prop} : ∀ (xs : List PV) (s : S), I xs s → (∀ x r s, I (x :: r) s → (fTurn Γ cs t b x s).run (fun f s2 => match f with
      | .nx => I r s2
      | .ct => I r s2
      | .bk => K .nx s2
      | .rt o => K (.rt o) s2) X) → (∀ s, I [] s → K .nx s) → (wforL0 (fTurn Γ cs t b) xs s).run K X
  | [], s, h, _, hk => forceS_iff.mpr (hk s h)
  | x :: xs, s, h, ht, hk => by
    have z := ht x xs s h
    refine (snd_bind snd_lift fun _ s2 => sexs b _ s2 : Snd (fTurn Γ cs t b x s) _).mono z (fun f s2 q => ?_) fun _ _ q => q
    cases f with
    | nx => exact for_inv0 I xs s2 q ht hk
    | ct => exact for_inv0 I xs s2 q ht hk
    | bk => exact forceS_iff.mpr q
    | rt o => exact forceS_iff.mpr q
theorem for_inv {cs : List Nat} {t : Tg} {b : Sts} (I : List PV → S → Prop) {K : Fl → S → Prop} (xs : List PV) (s : S) (h : I xs s) (ht : ∀ x r s, I (x :: r) s → (fTurn Γ cs t b x s).run (fun f s2 => match f with
      | .nx => I r s2
      | .ct => I r s2
      | .bk => K .nx s2
      | .rt o => K (.rt o) s2) X) (hk : ∀ s, I [] s → K .nx s) : Seal ((wforL0 (fTurn Γ cs t b) xs s).run K X) := .mk (for_inv0 I xs s h ht hk)
theorem for_nil {turn : PV → S → CR Fl} {s : S} {K : Fl → S → Prop} (h : forceS s fun s' => K .nx s') : Seal ((wforL0 turn [] s).run K X) := .mk h
/-- one turn of a written list -/
theorem for_cons {cs : List Nat} {t : Tg} {b : Sts} {x : PV} {xs : List PV} {s : S} {K : Fl → S → Prop} (h : (fTurn Γ cs t b x s).run (fun f s2 => match f with
      | .nx => Seal ((wforL0 (fTurn Γ cs t b) xs s2).run K X)
      | .ct => Seal ((wforL0 (fTurn Γ cs t b) xs s2).run K X)
      | .bk => K .nx s2
      | .rt o => K (.rt o) s2) X) : Seal ((wforL0 (fTurn Γ cs t b) (x :: xs) s).run K X) := by
  refine .mk ((snd_bind snd_lift fun _ s2 => sexs b _ s2 : Snd (fTurn Γ cs t b x s) _).mono h (fun f s2 q => ?_) fun _ _ q => q)
  cases f with
  | nx => exact seal_iff.mp q
  | ct => exact seal_iff.mp q
  | bk => exact forceS_iff.mpr q
  | rt o => exact forceS_iff.mpr q
/-- a comprehension's written list -/
theorem comp_nil {b : PV → S → CR (Option PV)} {acc : List PV} {s : S} {K : List PV → S → Prop} (h : forceS s fun s' => K acc s') : Seal ((wcompL0 own b [] acc s).run K X) := .mk h
theorem comp_cons {tg : Tg} {elt : Ex} {x : PV} {xs acc : List PV} {s : S} {K : List PV → S → Prop} (h : (cBody Γ tg elt x (wipeS s own)).run (fun o s2 => match o with
      | some y => Seal ((wcompL0 own (cBody Γ tg elt) xs (acc ++ [y]) s2).run K X)
      | none => Seal ((wcompL0 own (cBody Γ tg elt) xs acc s2).run K X)) fun _ _ => False) : Seal ((wcompL0 own (cBody Γ tg elt) (x :: xs) acc s).run K X) := by
  obtain ⟨r, hr⟩ := snd_cBody (Γ := Γ) (tg := tg) (elt := elt) x (wipeS s own)
  refine .mk (hr.mono h (fun o s2 q => ?_) fun _ _ q => q)
  cases o with
  | some y => exact seal_iff.mp q
  | none => exact seal_iff.mp q
/-- [elt for tg in xs if c], nothing locked: f x, or nothing -/
theorem comp_fm {tg : Tg} {elt c : Ex} {s1 : S} {xs : List PV} (f : PV → Option PV) (ht : ∀ x, x ∈ xs → (cBodyIf Γ tg elt c x (wipeS s1 own)).run (fun o s2 => o = f x ∧ wipeS s2 own = wipeS s1 own) fun _ _ => False) (hk : K (.lst (xs.filterMap f)) s1) :
    Seal ((wcompL0 own (cBodyIf Γ tg elt c) xs [] (wipeS s1 own)).run (fun ys s2 => (CR.ok (OV.lst ys) (back s1 own s2)).run K X) X) := by
  refine .mk (compL_fm (own := own) (s0 := wipeS s1 own) snd_cBodyIf f xs [] _ _ X (wipe_twice _ _) ht fun s2 h2 => ?_)
  refine forceS_iff.mpr ?_
  rw [back_eq h2, List.nil_append]
  exact hk
/-- one turn of a while -/
theorem while_step {cs : List Nat} {c : Ex} {b : Sts} {n : Nat} {s : S} {K : Fl → S → Prop} (h : (wte Γ c s).run (fun k s1 => wB k ((wexs Γ cs b s1).run (fun f s2 => match f with
      | .nx => Seal ((wwhileL0 (wte Γ c) (wexs Γ cs b) n s2).run K X)
      | .ct => Seal ((wwhileL0 (wte Γ c) (wexs Γ cs b) n s2).run K X)
      | .bk => K .nx s2
      | .rt o => K (.rt o) s2) X) (K .nx s1)) X) : Seal ((wwhileL0 (wte Γ c) (wexs Γ cs b) (n + 1) s).run K X) := by
  refine .mk ((ste c s).mono h (fun k s1 q => ?_) fun _ _ q => q)
  cases k with
  | false => exact wB_f rfl (forceS_iff.mpr (wB_false.mp q))
  | true =>
    refine wB_t rfl ((sexs b cs s1).mono (wB_true.mp q) (fun f s2 q => ?_) fun _ _ q => q)
    cases f with
    | nx => exact seal_iff.mp q
    | ct => exact seal_iff.mp q
    | bk => exact forceS_iff.mpr q
    | rt o => exact forceS_iff.mpr q
/-- a while by a measure: m turns are left at most -/
theorem while_inv {cs : List Nat} {c : Ex} {b : Sts} (I : Nat → S → Prop) {K : Fl → S → Prop} (hs : ∀ m s, I m s → (wte Γ c s).run (fun k s1 => wB k (∃ m', m = m' + 1 ∧ (wexs Γ cs b s1).run (fun f s2 => match f with
      | .nx => I m' s2
      | .ct => I m' s2
      | .bk => K .nx s2
      | .rt o => K (.rt o) s2) X) (K .nx s1)) X) : ∀ (n m : Nat) (s : S), I m s → m < n → Seal ((wwhileL0 (wte Γ c) (wexs Γ cs b) n s).run K X)
  | 0, m, s, _, hm => absurd hm (by omega)
  | n + 1, m, s, h, hm => by
    refine while_step ((ste c s).mono (hs m s h) (fun k s1 q => ?_) fun _ _ q => q)
    cases k with
    | false => exact wB_f rfl (wB_false.mp q)
    | true =>
      obtain ⟨m', e, q3⟩ := wB_true.mp q
      subst e
      refine wB_t rfl ((sexs b cs s1).mono q3 (fun f s2 q => ?_) fun _ _ q => q)
      cases f with
      | nx => exact while_inv I hs n m' s2 q (by omega)
      | ct => exact while_inv I hs n m' s2 q (by omega)
      | bk => exact q
      | rt o => exact q
end PF
set_option Elab.async false
set_option linter.all false
set_option maxRecDepth 100000
set_option maxHeartbeats 2000000
/-! LS, part 1: what the package's defs compute: values, pictures. -/
namespace PF
open PySem
section
variable {Γ : Env} {fn : Fn} {args : List OV}
theorem run_eq {r : OV} {t : List OV} (hl : args.length = fn.np) (h : wrun Γ fn args (fun o outs => o = r ∧ outs = t) fun _ _ => False) : runBody Γ fn args = .ok r t := by
  rcases wrun_ok hl h with ⟨o, outs, e, rfl, rfl⟩ | ⟨_, _, _, z⟩
  · exact e
  · exact z.elim
theorem run_exc {x : PExc} {t : List OV} (hl : args.length = fn.np) (h : wrun Γ fn args (fun _ _ => False) fun e outs => e = x ∧ outs = t) : runBody Γ fn args = .exc x t := by
  rcases wrun_ok hl h with ⟨_, _, _, z⟩ | ⟨o, outs, e, rfl, rfl⟩
  · exact z.elim
  · exact e
theorem toBls_map (f : PV → Bool) (xs : List PV) : toBls (xs.map fun x => .bl (f x)) = some (xs.map f) := by
  induction xs with
  | nil => rfl
  | cons x xs ih => show (toBls (xs.map fun x => .bl (f x))).map (f x :: ·) = _; rw [ih]; rfl
theorem bi_all (f : PV → Bool) (xs : List PV) : bi .all [.lst (xs.map fun x => .bl (f x))] = some (.sh (.bl (xs.all f))) := by
  show (toBls (xs.map fun x => .bl (f x))).map (fun bs => OV.sh (.bl (bs.all id))) = _
  rw [toBls_map]
  simp [List.all_map, Function.comp_def]
end
namespace Lib
/-! ### numbers, lines, rows -/
def isInt : PV → Bool
  | .int _ => true
  | _ => false
def isCnt : PV → Bool
  | .int i => decide (0 ≤ i)
  | _ => false
/-- a list's or a tuple's items -/
abbrev seqOf : PV → Option (List PV) := items
def isLn (v : PV) : Bool := match seqOf v with
  | some xs => !xs.isEmpty && xs.all isCnt
  | none => false
theorem r_is_integer (Γ : Env) (v : PV) : runBody Γ f0_is_integer [.sh v] = .ok (.sh (.bl (isInt v))) [.emp] := by
  cases v <;> rfl
structure S0 (Γ : Env) : Prop where
  is_integer : ∀ v, Γ.rho 0 [.sh v] = .ok (.sh (.bl (isInt v))) [.emp]
  c0 : Γ.cst 0 = []
theorem r_is_count {Γ : Env} (h : S0 Γ) (v : PV) : runBody Γ f1_is_count [.sh v] = .ok (.sh (.bl (isCnt v))) [.emp] := by
  refine run_eq rfl ?_
  conv => whnf
  refine wC_ok (h.is_integer v) ?_
  conv => whnf
  cases v with
  | int i =>
    refine wB_t rfl ?_
    conv => whnf
    exact ⟨rfl, rfl⟩
  | _ =>
    refine wB_f rfl ?_
    conv => whnf
    exact ⟨rfl, rfl⟩
structure S1 (Γ : Env) : Prop extends S0 Γ where
  is_count : ∀ v, Γ.rho 1 [.sh v] = .ok (.sh (.bl (isCnt v))) [.emp]
  c1 : Γ.cst 1 = []
def szOk (v : PV) : Prop := ∀ xs, seqOf v = some xs → xs.length ≤ big
theorem r_is_line {Γ : Env} (h : S1 Γ) (v : PV) (hz : szOk v) : runBody Γ f2_is_line [.sh v] = .ok (.sh (.bl (isLn v))) [.emp] := by
  refine run_eq rfl ?_
  conv => whnf
  cases v with
  | lst xs =>
    have hl := hz xs rfl
    refine wB_t rfl ?_
    conv => whnf
    cases xs with
    | nil =>
      refine wB_f rfl ?_
      exact ⟨rfl, rfl⟩
    | cons x xs =>
      refine wB_t (by simp [truth]) ?_
      conv => whnf
      refine wB_t (Bool.and_eq_true_iff.mpr ⟨rfl, decide_eq_true hl⟩) ?_
      refine comp_map (fun x => .bl (isCnt x)) ?_ ?_
      · intro y hy
        conv => whnf
        refine wC_ok (h.is_count y) ?_
        conv => whnf
        exact ⟨rfl, rfl⟩
      · conv => whnf
        refine wO_s (bi_all isCnt (x :: xs)) ?_
        exact ⟨rfl, rfl⟩
  | tup xs =>
    have hl := hz xs rfl
    refine wB_t rfl ?_
    conv => whnf
    cases xs with
    | nil =>
      refine wB_f rfl ?_
      exact ⟨rfl, rfl⟩
    | cons x xs =>
      refine wB_t (by simp [truth]) ?_
      conv => whnf
      refine wB_t (Bool.and_eq_true_iff.mpr ⟨rfl, decide_eq_true hl⟩) ?_
      refine comp_map (fun x => .bl (isCnt x)) ?_ ?_
      · intro y hy
        conv => whnf
        refine wC_ok (h.is_count y) ?_
        conv => whnf
        exact ⟨rfl, rfl⟩
      · conv => whnf
        refine wO_s (bi_all isCnt (x :: xs)) ?_
        exact ⟨rfl, rfl⟩
  | frz xs =>
    have hl := hz xs rfl
    refine wB_t rfl ?_
    conv => whnf
    cases xs with
    | nil =>
      refine wB_f rfl ?_
      exact ⟨rfl, rfl⟩
    | cons x xs =>
      refine wB_t (by simp [truth]) ?_
      conv => whnf
      refine wB_t (Bool.and_eq_true_iff.mpr ⟨rfl, decide_eq_true hl⟩) ?_
      refine comp_map (fun x => .bl (isCnt x)) ?_ ?_
      · intro y hy
        conv => whnf
        refine wC_ok (h.is_count y) ?_
        conv => whnf
        exact ⟨rfl, rfl⟩
      · conv => whnf
        refine wO_s (bi_all isCnt (x :: xs)) ?_
        exact ⟨rfl, rfl⟩
  | _ =>
    refine wB_f rfl ?_
    conv => whnf
    exact ⟨rfl, rfl⟩
structure S2 (Γ : Env) : Prop extends S1 Γ where
  is_line : ∀ v, szOk v → Γ.rho 2 [.sh v] = .ok (.sh (.bl (isLn v))) [.emp]
  c2 : Γ.cst 2 = []
def lenV (v : PV) : Int := match items v with
  | some xs => (xs.length : Int)
  | none => 0
theorem bi_len {v : PV} (h : isLn v = true) : bi .len [v] = some (.sh (.int (lenV v))) := by
  cases v <;> first | rfl | (exact absurd h Bool.false_ne_true)
theorem ix_zero {v x : PV} {xs : List PV} (h : items v = some (x :: xs)) : index v (.int 0) = some x := by
  unfold index
  rw [h]
  have e : ixN (x :: xs).length 0 = some 0 := by
    unfold ixN
    rw [if_pos (by omega), if_pos (by rw [List.length_cons]; omega)]
    rfl
  show (ixN (x :: xs).length 0).bind (fun j => (x :: xs)[j]?) = some x
  rw [e]; rfl
def sameLen (xs : List PV) : Bool := xs.all fun r => lenV r == lenV (xs.headD .non)
def isRows (v : PV) : Bool := match items v with
  | some xs => !xs.isEmpty && (xs.all isLn && sameLen xs)
  | none => false
theorem r_are_rows {Γ : Env} (h : S2 Γ) (v : PV) (hz : szOk v) (hr : ∀ xs, items v = some xs → ∀ x, x ∈ xs → szOk x) : runBody Γ f3_are_rows [.sh v] = .ok (.sh (.bl (isRows v))) [.emp] := by
  refine run_eq rfl ?_
  conv => whnf
  cases v
  case lst xs | tup xs | frz xs =>
    have hl := hz xs rfl
    have hr := hr xs rfl
    refine wB_f rfl ?_
    conv => whnf
    cases xs with
    | nil =>
      refine wB_t rfl ?_
      exact ⟨rfl, rfl⟩
    | cons x xs =>
      refine wB_f ?_ ?_
      · show (((x :: xs).length : Int) == 0) = false
        rw [beq_eq_false_iff_ne, List.length_cons]
        omega
      conv => whnf
      refine wB_t (Bool.and_eq_true_iff.mpr ⟨rfl, decide_eq_true hl⟩) ?_
      refine comp_map (fun x => .bl (isLn x)) ?_ ?_
      · intro y hy
        conv => whnf
        refine wC_ok (h.is_line y (hr y hy)) ?_
        conv => whnf
        exact ⟨rfl, rfl⟩
      · conv => whnf
        refine wO_s (bi_all isLn (x :: xs)) ?_
        conv => whnf
        refine wB_i (fun ha => ?_) fun ha => ?_
        · conv => whnf
          refine wB_t (Bool.and_eq_true_iff.mpr ⟨rfl, decide_eq_true hl⟩) ?_
          have hx : ∀ y, y ∈ x :: xs → isLn y = true := fun y hy => List.all_eq_true.mp ha y hy
          refine comp_map (fun y => .bl (lenV y == lenV x)) ?_ ?_
          · intro y hy
            conv => whnf
            refine wO_s (bi_len (hx y hy)) ?_
            conv => whnf
            refine wO_s (ix_zero rfl) ?_
            conv => whnf
            refine wO_s (bi_len (hx x List.mem_cons_self)) ?_
            conv => whnf
            exact ⟨rfl, rfl⟩
          · conv => whnf
            refine wO_s (bi_all (fun y => lenV y == lenV x) (x :: xs)) ?_
            refine ⟨?_, rfl⟩
            show OV.sh (PV.bl ((x :: xs).all fun y => lenV y == lenV x)) = OV.sh (PV.bl (true && ((x :: xs).all isLn && sameLen (x :: xs))))
            rw [ha]
            rfl
        · refine ⟨?_, rfl⟩
          show OV.sh (PV.bl ((x :: xs).all isLn)) = OV.sh (PV.bl (true && ((x :: xs).all isLn && sameLen (x :: xs))))
          rw [ha]
          rfl
  all_goals
    refine wB_t rfl ?_
    conv => whnf
    refine wB_t rfl ?_
    exact ⟨rfl, rfl⟩
structure S3 (Γ : Env) : Prop extends S2 Γ where
  are_rows : ∀ v, szOk v → (∀ xs, items v = some xs → ∀ x, x ∈ xs → szOk x) → Γ.rho 3 [.sh v] = .ok (.sh (.bl (isRows v))) [.emp]
  c3 : Γ.cst 3 = []
/-- a row, the rows as tuples -/
def rowT (v : PV) : PV := .tup ((items v).getD [])
def rowsT (v : PV) : PV := .tup (((items v).getD []).map rowT)
theorem bi_tup {v : PV} (h : isLn v = true) : bi .tuple [v] = some (.sh (rowT v)) := by
  cases v <;> first | rfl | (exact absurd h Bool.false_ne_true)
theorem rows_lines {v : PV} (h : isRows v = true) : ∃ xs, items v = some xs ∧ xs ≠ [] ∧ ∀ x, x ∈ xs → isLn x = true := by
  unfold isRows at h
  cases q : items v with
  | none => rw [q] at h; cases h
  | some xs =>
    rw [q] at h
    have h : (!xs.isEmpty && (xs.all isLn && sameLen xs)) = true := h
    simp only [Bool.and_eq_true, Bool.not_eq_true'] at h
    exact ⟨xs, rfl, fun z => by rw [z] at h; exact absurd h.1 (by simp), fun x hx => List.all_eq_true.mp h.2.1 x hx⟩
theorem r_init {Γ : Env} (h : S3 Γ) (v : PV) (hz : szOk v) (hr : ∀ xs, items v = some xs → ∀ x, x ∈ xs → szOk x) (ok : isRows v = true) : runBody Γ f4_Picture___init [.obj 0 [], .sh v] = .ok (.sh .non) [.obj 0 [rowsT v], .emp] := by
  refine run_eq rfl ?_
  conv => whnf
  refine wC_ok (h.are_rows v hz hr) ?_
  conv => whnf
  refine wB_f (by rw [ok]; rfl) ?_
  obtain ⟨xs, hx, _, hl⟩ := rows_lines ok
  conv => whnf
  cases v <;> first | (cases hx; done) | skip
  all_goals
    cases hx
    conv => whnf
    refine wB_t (Bool.and_eq_true_iff.mpr ⟨rfl, decide_eq_true (hz xs rfl)⟩) ?_
    refine comp_map rowT ?_ ?_
    · intro y hy
      conv => whnf
      refine wO_s (bi_tup (hl y hy)) ?_
      conv => whnf
      exact ⟨rfl, rfl⟩
    · conv => whnf
      exact ⟨rfl, rfl⟩
theorem r_init_bad {Γ : Env} (h : S3 Γ) (v : PV) (hz : szOk v) (hr : ∀ xs, items v = some xs → ∀ x, x ∈ xs → szOk x) (ok : isRows v = false) : runBody Γ f4_Picture___init [.obj 0 [], .sh v] = .exc ⟨1, [v]⟩ [.obj 0 [], .emp] := by
  refine run_exc rfl ?_
  conv => whnf
  refine wC_ok (h.are_rows v hz hr) ?_
  conv => whnf
  refine wB_t (by rw [ok]; rfl) ?_
  conv => whnf
  exact ⟨rfl, rfl⟩
/-! ### pictures -/
/-- a picture of these rows -/
def picV (R : List (List PV)) : PV := .ins 0 [.tup (R.map .tup)]
theorem r_rows {Γ : Env} (R : List (List PV)) : runBody Γ f5_Picture_rows [.sh (picV R)] = .ok (.sh (.tup (R.map .tup))) [.emp] := rfl
theorem r_height {Γ : Env} (R : List (List PV)) : runBody Γ f6_Picture_height [.sh (picV R)] = .ok (.sh (.int (R.map PV.tup).length)) [.emp] := rfl
theorem r_width {Γ : Env} (r : List PV) (R : List (List PV)) : runBody Γ f7_Picture_width [.sh (picV (r :: R))] = .ok (.sh (.int r.length)) [.emp] := by
  refine run_eq rfl ?_
  conv => whnf
  refine wO_s (ix_zero (v := .tup (PV.tup r :: R.map .tup)) rfl) ?_
  conv => whnf
  exact ⟨rfl, rfl⟩
/-! ### sides, colours -/
def top : Tx := [116, 111, 112]
def right : Tx := [114, 105, 103, 104, 116]
def bottom : Tx := [98, 111, 116, 116, 111, 109]
def left : Tx := [108, 101, 102, 116]
def isSide : PV → Bool
  | .str s => s == top || (s == right || (s == bottom || s == left))
  | _ => false
theorem inop_sides (s : Tx) : inop (.str s) (.tup [.str top, .str right, .str bottom, .str left]) = some (isSide (.str s)) := by
  show some (([.str top, .str right, .str bottom, .str left] : List PV).any fun z => eqP z (.str s)) = _
  show some ((top == s) || ((right == s) || ((bottom == s) || ((left == s) || false)))) = some (s == top || (s == right || (s == bottom || s == left)))
  rw [Bool.or_false, BEq.comm (a := top), BEq.comm (a := right), BEq.comm (a := bottom), BEq.comm (a := left)]
structure S4 (Γ : Env) : Prop extends S3 Γ where
  sides : Γ.glb 0 = some (.tup [.str top, .str right, .str bottom, .str left])
theorem r_is_side {Γ : Env} (h : S4 Γ) (v : PV) : runBody Γ f13_is_side [.sh v] = .ok (.sh (.bl (isSide v))) [.emp] := by
  refine run_eq rfl ?_
  conv => whnf
  cases v
  case str s =>
    refine wB_t rfl ?_
    conv => whnf
    refine wO_s h.sides ?_
    conv => whnf
    refine ⟨?_, rfl⟩
    have e : (([.str top, .str right, .str bottom, .str left] : List PV).any fun z => eqP z (.str s)) = isSide (.str s) := Option.some.inj (inop_sides s)
    show OV.sh (.bl ((([.str top, .str right, .str bottom, .str left] : List PV).any fun z => eqP z (.str s)) != false)) = _
    rw [e]
    cases isSide (.str s) <;> rfl
  all_goals
    refine wB_f rfl ?_
    exact ⟨rfl, rfl⟩
structure S5 (Γ : Env) : Prop extends S4 Γ where
  is_side : ∀ v, Γ.rho 13 [.sh v] = .ok (.sh (.bl (isSide v))) [.emp]
  c13 : Γ.cst 13 = []
theorem r_check_side {Γ : Env} (h : S5 Γ) (v : PV) (ok : isSide v = true) : runBody Γ f15_check_side [.sh v] = .ok (.sh .non) [.emp] := by
  refine run_eq rfl ?_
  conv => whnf
  refine wC_ok (h.is_side v) ?_
  conv => whnf
  refine wB_f (by rw [ok]; rfl) ?_
  exact ⟨rfl, rfl⟩
theorem r_check_side_bad {Γ : Env} (h : S5 Γ) (v : PV) (ok : isSide v = false) : runBody Γ f15_check_side [.sh v] = .exc ⟨4, [v]⟩ [.emp] := by
  refine run_exc rfl ?_
  conv => whnf
  refine wC_ok (h.is_side v) ?_
  conv => whnf
  refine wB_t (by rw [ok]; rfl) ?_
  exact ⟨rfl, rfl⟩
theorem r_check_colour {Γ : Env} (h : S5 Γ) (v : PV) (ok : isCnt v = true) : runBody Γ f14_check_colour [.sh v] = .ok (.sh .non) [.emp] := by
  refine run_eq rfl ?_
  conv => whnf
  refine wC_ok (h.is_count v) ?_
  conv => whnf
  refine wB_f (by rw [ok]; rfl) ?_
  exact ⟨rfl, rfl⟩
theorem r_check_colour_bad {Γ : Env} (h : S5 Γ) (v : PV) (ok : isCnt v = false) : runBody Γ f14_check_colour [.sh v] = .exc ⟨3, [v]⟩ [.emp] := by
  refine run_exc rfl ?_
  conv => whnf
  refine wC_ok (h.is_count v) ?_
  conv => whnf
  refine wB_t (by rw [ok]; rfl) ?_
  exact ⟨rfl, rfl⟩
end Lib
end PF
set_option Elab.async false
set_option linter.all false
set_option maxRecDepth 100000
set_option maxHeartbeats 2000000
/-! LS, part 2: new pictures. -/
namespace PF
open PySem
namespace Lib
/-- the rows of a picture -/
structure Rect (R : List (List PV)) (w : Nat) : Prop where
  ne : R ≠ []
  w0 : 0 < w
  len : ∀ r, r ∈ R → r.length = w
  cnt : ∀ r, r ∈ R → ∀ c, c ∈ r → isCnt c = true
  big : R.length ≤ big ∧ w ≤ big
/-- v has these rows, whatever kinds of sequences -/
def RowsV (v : PV) (R : List (List PV)) : Prop := ∃ xs, items v = some xs ∧ xs.map items = R.map some
theorem isLn_of {v : PV} {r : List PV} (h : items v = some r) (ne : r ≠ []) (c : ∀ x, x ∈ r → isCnt x = true) : isLn v = true := by
  unfold isLn seqOf
  rw [h]
  show (!r.isEmpty && r.all isCnt) = true
  rw [Bool.and_eq_true]
  refine ⟨?_, List.all_eq_true.mpr c⟩
  cases r with
  | nil => exact absurd rfl ne
  | cons a r => rfl
theorem rows_of {v : PV} {R : List (List PV)} {w : Nat} (h : RowsV v R) (hR : Rect R w) : szOk v ∧ (∀ xs, items v = some xs → ∀ x, x ∈ xs → szOk x) ∧ isRows v = true ∧ rowsT v = .tup (R.map .tup) := by
  obtain ⟨xs, e1, e2⟩ := h
  have hl : xs.length = R.length := by simpa using congrArg List.length e2
  have at_ : ∀ x, x ∈ xs → ∃ r, r ∈ R ∧ items x = some r := fun x hx => by
    have : items x ∈ R.map some := by rw [← e2]; exact List.mem_map.mpr ⟨x, hx, rfl⟩
    obtain ⟨r, hr, q⟩ := List.mem_map.mp this
    exact ⟨r, hr, q.symm⟩
  have lenW : ∀ x, x ∈ xs → lenV x = w := fun x hx => by
    obtain ⟨r, hr, q⟩ := at_ x hx
    unfold lenV
    rw [q]
    exact congrArg Int.ofNat (hR.len r hr)
  have nex : xs ≠ [] := fun z => by
    rw [z] at hl
    exact hR.ne (List.eq_nil_of_length_eq_zero hl.symm)
  refine ⟨fun ys q => ?_, fun ys q x hx ys2 q2 => ?_, ?_, ?_⟩
  · have q : items v = some ys := q
    rw [e1] at q; cases q
    rw [hl]; exact hR.big.1
  · have q : items v = some ys := q
    rw [e1] at q; cases q
    obtain ⟨r, hr, q3⟩ := at_ x hx
    have q2 : items x = some ys2 := q2
    rw [q3] at q2
    have q4 : r = ys2 := Option.some.inj q2
    rw [← q4, hR.len r hr]; exact hR.big.2
  · unfold isRows
    rw [e1]
    show (!xs.isEmpty && (xs.all isLn && sameLen xs)) = true
    rw [Bool.and_eq_true, Bool.and_eq_true]
    refine ⟨?_, List.all_eq_true.mpr fun x hx => ?_, List.all_eq_true.mpr fun x hx => ?_⟩
    · cases xs with
      | nil => exact absurd rfl nex
      | cons a l => rfl
    · obtain ⟨r, hr, q⟩ := at_ x hx
      refine isLn_of q (fun z => ?_) (hR.cnt r hr)
      have := hR.len r hr
      rw [z] at this
      have w0 := hR.w0
      simp at this
      omega
    · have hh : xs.headD .non ∈ xs := by
        cases xs with
        | nil => exact absurd rfl nex
        | cons a l => exact List.mem_cons_self
      rw [lenW x hx, lenW _ hh]
      exact beq_self_eq_true _
  · unfold rowsT
    rw [e1]
    show PV.tup (xs.map rowT) = _
    congr 1
    have : xs.map rowT = (xs.map items).map fun o => PV.tup (o.getD []) := by
      rw [List.map_map]; rfl
    rw [this, e2, List.map_map]
    rfl
structure S6 (Γ : Env) : Prop extends S5 Γ where
  init : ∀ v, szOk v → (∀ xs, items v = some xs → ∀ x, x ∈ xs → szOk x) → isRows v = true → Γ.rho 4 [.obj 0 [], .sh v] = .ok (.sh .non) [.obj 0 [rowsT v], .emp]
  init_bad : ∀ v, szOk v → (∀ xs, items v = some xs → ∀ x, x ∈ xs → szOk x) → isRows v = false → Γ.rho 4 [.obj 0 [], .sh v] = .exc ⟨1, [v]⟩ [.obj 0 [], .emp]
  d4 : Γ.dfl 4 = []
  c4 : Γ.cst 4 = [0]
  rows : ∀ R, Γ.rho 5 [.sh (picV R)] = .ok (.sh (.tup (R.map .tup))) [.emp]
  height : ∀ R, Γ.rho 6 [.sh (picV R)] = .ok (.sh (.int (R.map PV.tup).length)) [.emp]
  width : ∀ r R, Γ.rho 7 [.sh (picV (r :: R))] = .ok (.sh (.int r.length)) [.emp]
/-- Picture(v) -/
theorem made {Γ : Env} (h : S6 Γ) {v : PV} {R : List (List PV)} {w : Nat} (hv : RowsV v R) (hR : Rect R w) : Γ.rho 4 (.obj 0 [] :: shs ([v] ++ lastN 0 (Γ.dfl 4))) = .ok (.sh .non) [.obj 0 [.tup (R.map .tup)], .emp] := by
  rw [h.d4]
  obtain ⟨h1, h2, h3, h4⟩ := rows_of hv hR
  rw [← h4]
  exact h.init v h1 h2 h3
def revT : PV → PV
  | .tup r => .tup r.reverse
  | v => v
theorem r_mirrored {Γ : Env} (h : S6 Γ) {R : List (List PV)} {w : Nat} (hR : Rect R w) : runBody Γ f21_Picture_mirrored [.sh (picV R)] = .ok (.obj 0 [.tup ((R.map List.reverse).map .tup)]) [.emp] := by
  refine run_eq rfl ?_
  conv => whnf
  refine wB_t rfl ?_
  conv => whnf
  refine wB_t (Bool.and_eq_true_iff.mpr ⟨rfl, decide_eq_true (by rw [List.length_map]; exact hR.big.1)⟩) ?_
  refine comp_map revT ?_ ?_
  · intro y hy
    obtain ⟨r, hr, rfl⟩ := List.mem_map.mp hy
    conv => whnf
    exact ⟨rfl, rfl⟩
  · conv => whnf
    refine wC_ok (made h (R := R.map List.reverse) (w := w) ⟨_, rfl, ?_⟩ ?_) ?_
    · rw [List.map_map, List.map_map, List.map_map]; rfl
    · refine ⟨fun z => hR.ne (List.map_eq_nil_iff.mp z), hR.w0, fun r hr => ?_, fun r hr c hc => ?_, by rw [List.length_map]; exact hR.big⟩
      · obtain ⟨r0, h0, rfl⟩ := List.mem_map.mp hr
        rw [List.length_reverse]; exact hR.len r0 h0
      · obtain ⟨r0, h0, rfl⟩ := List.mem_map.mp hr
        exact hR.cnt r0 h0 c (List.mem_reverse.mp hc)
    · conv => whnf
      exact ⟨rfl, rfl⟩
theorem index_at {v : PV} {xs : List PV} {k : Nat} (h : items v = some xs) (hk : k < xs.length) : index v (.int (k : Nat)) = some (xs.getD k .non) := by
  unfold index
  rw [h]
  have e : ixN xs.length (k : Int) = some k := by
    unfold ixN
    rw [if_pos (by omega), if_pos (by omega)]
    rfl
  show (ixN xs.length (k : Int)).bind (fun j => xs[j]?) = _
  rw [e]
  show xs[k]? = _
  rw [List.getElem?_eq_getElem hk, List.getD, List.getElem?_eq_getElem hk]
  rfl
theorem rng_ok {w : Nat} (h : w ≤ big) : rngOk 0 (w : Int) = true := by
  unfold rngOk
  have h : w ≤ 16777216 := h
  rw [Bool.and_eq_true, decide_eq_true_eq, decide_eq_true_eq]
  exact ⟨by decide, by rw [Int.natAbs_natCast]; omega⟩
theorem mem_rng {w : Nat} {y : PV} (h : y ∈ rngL 0 (w : Int)) : ∃ k, k < w ∧ y = .int (k : Nat) := by
  unfold rngL at h
  obtain ⟨k, hk, rfl⟩ := List.mem_map.mp h
  refine ⟨k, ?_, by rw [Int.zero_add]⟩
  have := List.mem_range.mp hk
  omega
/-- the cells of a column, from the bottom -/
def colT (R : List (List PV)) (k : Nat) : List PV := R.reverse.map fun r => r.getD k .non
def turnR (R : List (List PV)) (w : Nat) : List (List PV) := (List.range w).map (colT R)
def colV (R : List (List PV)) : PV → PV
  | .int i => .lst (colT R i.toNat)
  | v => v
def cellV (k : Nat) : PV → PV
  | .tup r => r.getD k .non
  | v => v
end Lib
end PF
set_option Elab.async false
set_option linter.all false
set_option maxRecDepth 100000
set_option maxHeartbeats 2000000
namespace PF
open PySem
namespace Lib
theorem r_turned {Γ : Env} (h : S6 Γ) {R : List (List PV)} {w : Nat} (hR : Rect R w) : runBody Γ f20_Picture_turned [.sh (picV R)] = .ok (.obj 0 [.tup ((turnR R w).map .tup)]) [.emp] := by
  refine run_eq rfl ?_
  conv => whnf
  refine wB_t rfl ?_
  conv => whnf
  refine wB_t rfl ?_
  conv => whnf
  have hw : Γ.rho 7 [.sh (picV R)] = .ok (.sh (.int w)) [.emp] := by
    cases R with
    | nil => exact absurd rfl hR.ne
    | cons r R =>
      rw [h.width, hR.len r List.mem_cons_self]
  refine wC_ok hw ?_
  conv => whnf
  refine wB_t (rng_ok hR.big.2) ?_
  conv => whnf
  have hlen : (rngL 0 (w : Int)).length ≤ big := by
    unfold rngL
    rw [List.length_map, List.length_range]
    have := hR.big.2
    omega
  refine wB_t (Bool.and_eq_true_iff.mpr ⟨rfl, decide_eq_true hlen⟩) ?_
  refine comp_map (colV R) ?_ ?_
  · intro y hy
    obtain ⟨k, hk, rfl⟩ := mem_rng hy
    conv => whnf
    refine wB_t (Bool.and_eq_true_iff.mpr ⟨rfl, decide_eq_true (by rw [List.length_reverse, List.length_map]; exact hR.big.1)⟩) ?_
    refine comp_map (cellV k) ?_ ?_
    · intro z hz
      obtain ⟨r, hr, rfl⟩ := List.mem_map.mp (List.mem_reverse.mp hz)
      conv => whnf
      refine wO_s (index_at (v := .tup r) rfl (by rw [hR.len r hr]; exact hk)) ?_
      conv => whnf
      exact ⟨rfl, rfl⟩
    · conv => whnf
      refine ⟨?_, rfl⟩
      show some (PV.lst (((R.map PV.tup).reverse).map (cellV k))) = some (PV.lst (R.reverse.map fun r => r.getD k .non))
      rw [← List.map_reverse, List.map_map]
      rfl
  · conv => whnf
    have e0 : rngL 0 (w : Int) = (List.range w).map fun k => PV.int (k : Nat) := by
      unfold rngL
      have : ((w : Int) - 0).toNat = w := by omega
      rw [this]
      refine List.map_congr_left fun k _ => ?_
      rw [Int.zero_add]
    have hv : RowsV (.lst ((rngL 0 (w : Int)).map (colV R))) (turnR R w) := by
      refine ⟨_, rfl, ?_⟩
      unfold turnR
      rw [e0, List.map_map, List.map_map, List.map_map]
      rfl
    have hT : Rect (turnR R w) R.length := by
      refine ⟨fun z => ?_, ?_, fun r hr => ?_, fun r hr c hc => ?_, ?_, hR.big.1⟩
      · have := congrArg List.length z
        unfold turnR at this
        rw [List.length_map, List.length_range] at this
        have := hR.w0
        simp at *
        omega
      · have := hR.ne
        cases R with
        | nil => exact absurd rfl this
        | cons a l => simp
      · unfold turnR at hr
        obtain ⟨k, hk, rfl⟩ := List.mem_map.mp hr
        unfold colT
        rw [List.length_map, List.length_reverse]
      · unfold turnR at hr
        obtain ⟨k, hk, rfl⟩ := List.mem_map.mp hr
        unfold colT at hc
        obtain ⟨r0, h0, rfl⟩ := List.mem_map.mp hc
        have h0 := List.mem_reverse.mp h0
        refine hR.cnt r0 h0 _ ?_
        have hk : k < r0.length := by rw [hR.len r0 h0]; exact List.mem_range.mp hk
        rw [List.getD, List.getElem?_eq_getElem hk]
        exact List.getElem_mem hk
      · unfold turnR
        rw [List.length_map, List.length_range]
        exact hR.big.2
    refine wC_ok (made h hv hT) ?_
    conv => whnf
    exact ⟨rfl, rfl⟩
end Lib
end PF
set_option Elab.async false
set_option linter.all false
set_option maxRecDepth 100000
set_option maxHeartbeats 2000000
/-! LS, part 4: cut. -/
namespace PF
open PySem
namespace Lib
theorem cut_tail {α : Type} (xs : List α) : cut xs (some 1) none = xs.tail := by
  unfold cut sIx
  cases xs with
  | nil => rfl
  | cons a l =>
    have e : (if (1 : Int) < 0 then ((1 : Int) + ((a :: l).length : Int)).toNat else min (1 : Int).toNat (a :: l).length) = 1 := by
      rw [if_neg (by omega)]
      simp
    dsimp only
    rw [e]
    simp
theorem cut_init {α : Type} (xs : List α) : cut xs none (some (-1)) = xs.dropLast := by
  unfold cut sIx
  have e : (if (-1 : Int) < 0 then ((-1 : Int) + (xs.length : Int)).toNat else min (-1 : Int).toNat xs.length) = xs.length - 1 := by
    rw [if_pos (by omega)]
    omega
  show (xs.drop 0).take ((if (-1 : Int) < 0 then ((-1 : Int) + (xs.length : Int)).toNat else min (-1 : Int).toNat xs.length) - 0) = _
  rw [e, List.drop_zero, Nat.sub_zero, List.dropLast_eq_take]
theorem side_cases {s : Tx} (h : isSide (.str s) = true) : s = top ∨ s = right ∨ s = bottom ∨ s = left := by
  have h : (s == top || (s == right || (s == bottom || s == left))) = true := h
  simp only [Bool.or_eq_true, beq_iff_eq] at h
  exact h
/-- the rows without the line at a side -/
def cutR (s : Tx) (R : List (List PV)) : List (List PV) := if s = top then R.tail else if s = bottom then R.dropLast else if s = left then R.map List.tail else R.map List.dropLast
def lastL (s : Tx) (R : List (List PV)) (w : Nat) : Bool := if s = top ∨ s = bottom then decide (R.length = 1) else decide (w = 1)
structure S7 (Γ : Env) : Prop extends S6 Γ where
  check_side : ∀ v, isSide v = true → Γ.rho 15 [.sh v] = .ok (.sh .non) [.emp]
  check_side_bad : ∀ v, isSide v = false → Γ.rho 15 [.sh v] = .exc ⟨4, [v]⟩ [.emp]
  c15 : Γ.cst 15 = []
  check_colour : ∀ v, isCnt v = true → Γ.rho 14 [.sh v] = .ok (.sh .non) [.emp]
  check_colour_bad : ∀ v, isCnt v = false → Γ.rho 14 [.sh v] = .exc ⟨3, [v]⟩ [.emp]
  c14 : Γ.cst 14 = []
theorem width_of {Γ : Env} (h : S6 Γ) {R : List (List PV)} {w : Nat} (hR : Rect R w) : Γ.rho 7 [.sh (picV R)] = .ok (.sh (.int w)) [.emp] := by
  cases R with
  | nil => exact absurd rfl hR.ne
  | cons r R => rw [h.width, hR.len r List.mem_cons_self]
theorem height_of {Γ : Env} (h : S6 Γ) {R : List (List PV)} : Γ.rho 6 [.sh (picV R)] = .ok (.sh (.int (R.length : Nat))) [.emp] := by
  rw [h.height, List.length_map]
theorem r_cut_bad {Γ : Env} (h : S7 Γ) {R : List (List PV)} {v : PV} (hs : isSide v = false) : runBody Γ f22_Picture_cut [.sh (picV R), .sh v] = .exc ⟨4, [v]⟩ [.emp, .emp] := by
  refine run_exc rfl ?_
  conv => whnf
  refine wC_exc (h.check_side_bad v hs) ?_
  exact ⟨rfl, rfl⟩
theorem rect_tail {R : List (List PV)} {w : Nat} (hR : Rect R w) (h : R.length ≠ 1) : Rect R.tail w := by
  refine ⟨fun z => ?_, hR.w0, fun r hr => hR.len r (List.mem_of_mem_tail hr), fun r hr => hR.cnt r (List.mem_of_mem_tail hr), ?_, hR.big.2⟩
  · have := congrArg List.length z
    rw [List.length_tail] at this
    have n := hR.ne
    cases R with
    | nil => exact n rfl
    | cons a l => simp at this h; exact h this
  · have := hR.big.1
    rw [List.length_tail]; omega
theorem rect_init {R : List (List PV)} {w : Nat} (hR : Rect R w) (h : R.length ≠ 1) : Rect R.dropLast w := by
  refine ⟨fun z => ?_, hR.w0, fun r hr => hR.len r ((List.dropLast_sublist R).subset hr), fun r hr => hR.cnt r ((List.dropLast_sublist R).subset hr), ?_, hR.big.2⟩
  · have := congrArg List.length z
    rw [List.length_dropLast] at this
    have n := hR.ne
    cases R with
    | nil => exact n rfl
    | cons a l => simp at this h; exact h this
  · have := hR.big.1
    rw [List.length_dropLast]; omega
theorem rect_map {R : List (List PV)} {w : Nat} (hR : Rect R w) (h : w ≠ 1) {f : List PV → List PV} (hl : ∀ r, (f r).length = r.length - 1) (hm : ∀ r c, c ∈ f r → c ∈ r) : Rect (R.map f) (w - 1) := by
  have w0 := hR.w0
  refine ⟨fun z => hR.ne (List.map_eq_nil_iff.mp z), by omega, fun r hr => ?_, fun r hr c hc => ?_, by rw [List.length_map]; exact hR.big.1, by have := hR.big.2; omega⟩
  · obtain ⟨r0, h0, rfl⟩ := List.mem_map.mp hr
    rw [hl, hR.len r0 h0]
  · obtain ⟨r0, h0, rfl⟩ := List.mem_map.mp hr
    exact hR.cnt r0 h0 c (hm _ _ hc)
theorem rows_tup (R : List (List PV)) : RowsV (.tup (R.map .tup)) R := ⟨_, rfl, by rw [List.map_map]; rfl⟩
theorem rows_lstT {R : List (List PV)} : RowsV (.lst (R.map .tup)) R := ⟨_, rfl, by rw [List.map_map]; rfl⟩
theorem r_cut_last {Γ : Env} (h : S7 Γ) {R : List (List PV)} {w : Nat} (hR : Rect R w) {s : Tx} (hs : isSide (.str s) = true) (hl : lastL s R w = true) : runBody Γ f22_Picture_cut [.sh (picV R), .sh (.str s)] = .exc ⟨6, [.int 0]⟩ [.emp, .emp] := by
  refine run_exc rfl ?_
  conv => whnf
  refine wC_ok (h.check_side _ hs) ?_
  conv => whnf
  rcases side_cases hs with rfl | rfl | rfl | rfl
  · refine wB_t rfl ?_
    conv => whnf
    refine wB_t rfl ?_
    conv => whnf
    refine wC_ok (height_of h.toS6) ?_
    conv => whnf
    have e : R.length = 1 := of_decide_eq_true hl
    refine wB_t (by rw [e]; rfl) ?_
    exact ⟨rfl, rfl⟩
  · refine wB_f rfl ?_
    conv => whnf
    refine wB_t rfl ?_
    conv => whnf
    refine wC_ok (width_of h.toS6 hR) ?_
    conv => whnf
    have e : w = 1 := of_decide_eq_true hl
    refine wB_t (by rw [e]; rfl) ?_
    exact ⟨rfl, rfl⟩
  · refine wB_t rfl ?_
    conv => whnf
    refine wB_t rfl ?_
    conv => whnf
    refine wC_ok (height_of h.toS6) ?_
    conv => whnf
    have e : R.length = 1 := of_decide_eq_true hl
    refine wB_t (by rw [e]; rfl) ?_
    exact ⟨rfl, rfl⟩
  · refine wB_f rfl ?_
    conv => whnf
    refine wB_t rfl ?_
    conv => whnf
    refine wC_ok (width_of h.toS6 hR) ?_
    conv => whnf
    have e : w = 1 := of_decide_eq_true hl
    refine wB_t (by rw [e]; rfl) ?_
    exact ⟨rfl, rfl⟩
end Lib
end PF
set_option Elab.async false
set_option linter.all false
set_option maxRecDepth 100000
set_option maxHeartbeats 2000000
/-! LS, part 5: cut, added. -/
namespace PF
open PySem
namespace Lib
theorem ne1 {n : Nat} (h : n ≠ 1) : ((n : Int) == 1) = false := by
  rw [beq_eq_false_iff_ne]; omega
theorem lastL_rows {s : Tx} {R : List (List PV)} {w : Nat} (hs : s = top ∨ s = bottom) (hl : lastL s R w = false) : R.length ≠ 1 := by
  unfold lastL at hl
  rw [if_pos hs] at hl
  exact of_decide_eq_false hl
theorem lastL_cols {s : Tx} {R : List (List PV)} {w : Nat} (hs : ¬ (s = top ∨ s = bottom)) (hl : lastL s R w = false) : w ≠ 1 := by
  unfold lastL at hl
  rw [if_neg hs] at hl
  exact of_decide_eq_false hl
theorem rect_cut {R : List (List PV)} {w : Nat} (hR : Rect R w) {s : Tx} (hl : lastL s R w = false) : Rect (cutR s R) (if s = top ∨ s = bottom then w else w - 1) := by
  unfold cutR
  by_cases h1 : s = top
  · rw [if_pos h1, if_pos (.inl h1)]
    exact rect_tail hR (lastL_rows (.inl h1) hl)
  · rw [if_neg h1]
    by_cases h2 : s = bottom
    · rw [if_pos h2, if_pos (.inr h2)]
      exact rect_init hR (lastL_rows (.inr h2) hl)
    · have h3 : ¬ (s = top ∨ s = bottom) := fun z => z.elim h1 h2
      rw [if_neg h2, if_neg h3]
      split
      · exact rect_map hR (lastL_cols h3 hl) (fun r => by simp) fun r c hc => List.mem_of_mem_tail hc
      · exact rect_map hR (lastL_cols h3 hl) (fun r => by simp) fun r c hc => (List.dropLast_sublist r).subset hc
def tailT : PV → PV
  | .tup r => .tup r.tail
  | v => v
def initT : PV → PV
  | .tup r => .tup r.dropLast
  | v => v
theorem rows_map {R : List (List PV)} {f : PV → PV} {g : List PV → List PV} (h : ∀ r, f (.tup r) = .tup (g r)) : RowsV (.lst ((R.map .tup).map f)) (R.map g) := by
  refine ⟨_, rfl, ?_⟩
  rw [List.map_map, List.map_map, List.map_map]
  refine List.map_congr_left fun r _ => ?_
  show items (f (.tup r)) = some (g r)
  rw [h]; rfl
theorem r_cut {Γ : Env} (h : S7 Γ) {R : List (List PV)} {w : Nat} (hR : Rect R w) {s : Tx} (hs : isSide (.str s) = true) (hl : lastL s R w = false) : runBody Γ f22_Picture_cut [.sh (picV R), .sh (.str s)] = .ok (.obj 0 [.tup ((cutR s R).map .tup)]) [.emp, .emp] := by
  refine run_eq rfl ?_
  have hC := rect_cut hR hl
  conv => whnf
  refine wC_ok (h.check_side _ hs) ?_
  conv => whnf
  rcases side_cases hs with rfl | rfl | rfl | rfl
  · refine wB_t rfl ?_
    conv => whnf
    refine wB_t rfl ?_
    conv => whnf
    refine wC_ok (height_of h.toS6) ?_
    conv => whnf
    refine wB_f (ne1 (lastL_rows (.inl rfl) hl)) ?_
    conv => whnf
    refine wB_t rfl ?_
    conv => whnf
    refine wB_t rfl ?_
    conv => whnf
    refine wC_ok (made h.toS6 (R := cutR top R) (w := w) ⟨_, rfl, ?_⟩ hC) ?_
    · rw [cut_tail]
      show (R.map PV.tup).tail.map items = R.tail.map some
      rw [← List.map_tail, List.map_map]; rfl
    · conv => whnf
      exact ⟨rfl, rfl⟩
  · refine wB_f rfl ?_
    conv => whnf
    refine wB_t rfl ?_
    conv => whnf
    refine wC_ok (width_of h.toS6 hR) ?_
    conv => whnf
    refine wB_f (ne1 (lastL_cols (by decide) hl)) ?_
    conv => whnf
    refine wB_f rfl ?_
    conv => whnf
    refine wB_f rfl ?_
    conv => whnf
    refine wB_t rfl ?_
    conv => whnf
    refine wB_t (Bool.and_eq_true_iff.mpr ⟨rfl, decide_eq_true (by rw [List.length_map]; exact hR.big.1)⟩) ?_
    refine comp_map initT ?_ ?_
    · intro y hy
      obtain ⟨r, hr, rfl⟩ := List.mem_map.mp hy
      conv => whnf
      refine wB_f rfl ?_
      conv => whnf
      refine ⟨?_, rfl⟩
      show some (PV.tup (cut r none (some (-1)))) = _
      rw [cut_init]; rfl
    · conv => whnf
      refine wC_ok (made h.toS6 (R := cutR right R) (w := w - 1) (rows_map fun r => rfl) hC) ?_
      conv => whnf
      exact ⟨rfl, rfl⟩
  · refine wB_t rfl ?_
    conv => whnf
    refine wB_t rfl ?_
    conv => whnf
    refine wC_ok (height_of h.toS6) ?_
    conv => whnf
    refine wB_f (ne1 (lastL_rows (.inr rfl) hl)) ?_
    conv => whnf
    refine wB_f rfl ?_
    conv => whnf
    refine wB_t rfl ?_
    conv => whnf
    refine wB_t rfl ?_
    conv => whnf
    refine wC_ok (made h.toS6 (R := cutR bottom R) (w := w) ⟨_, rfl, ?_⟩ hC) ?_
    · rw [cut_init]
      show (R.map PV.tup).dropLast.map items = R.dropLast.map some
      rw [← List.map_dropLast, List.map_map]; rfl
    · conv => whnf
      exact ⟨rfl, rfl⟩
  · refine wB_f rfl ?_
    conv => whnf
    refine wB_t rfl ?_
    conv => whnf
    refine wC_ok (width_of h.toS6 hR) ?_
    conv => whnf
    refine wB_f (ne1 (lastL_cols (by decide) hl)) ?_
    conv => whnf
    refine wB_f rfl ?_
    conv => whnf
    refine wB_f rfl ?_
    conv => whnf
    refine wB_t rfl ?_
    conv => whnf
    refine wB_t (Bool.and_eq_true_iff.mpr ⟨rfl, decide_eq_true (by rw [List.length_map]; exact hR.big.1)⟩) ?_
    refine comp_map tailT ?_ ?_
    · intro y hy
      obtain ⟨r, hr, rfl⟩ := List.mem_map.mp hy
      conv => whnf
      refine wB_t rfl ?_
      conv => whnf
      refine ⟨?_, rfl⟩
      show some (PV.tup (cut r (some 1) none)) = _
      rw [cut_tail]; rfl
    · conv => whnf
      refine wC_ok (made h.toS6 (R := cutR left R) (w := w - 1) (rows_map fun r => rfl) hC) ?_
      conv => whnf
      exact ⟨rfl, rfl⟩
/-! ### added -/
def addR (s : Tx) (c : PV) (R : List (List PV)) (w : Nat) : List (List PV) := if s = top then List.replicate w c :: R else if s = bottom then R ++ [List.replicate w c] else if s = left then R.map (c :: ·) else R.map (· ++ [c])
theorem rep_flat {c : PV} : ∀ k, (List.replicate k [c]).flatten = List.replicate k c
  | 0 => rfl
  | k + 1 => by rw [List.replicate_succ, List.flatten_cons, rep_flat, List.replicate_succ]; rfl
theorem mul_tup {c : PV} {w : Nat} (h : 0 < w) (h2 : w ≤ 1000) : binop .mul (.tup [c]) (.int (w : Nat)) = some (.sh (.tup (List.replicate w c))) := by
  show bMul (.tup [c]) (.int (w : Nat)) = _
  unfold bMul
  by_cases h1 : w = 1
  · subst h1; rfl
  · dsimp only
    rw [if_neg (by omega), if_pos ⟨by omega, by omega, rfl, by simp⟩]
    show some (OV.sh (.tup (List.replicate ((w : Int)).toNat [c]).flatten)) = _
    rw [Int.toNat_natCast, rep_flat]
theorem isSide_str {v : PV} (h : isSide v = true) : ∃ s, v = .str s := by
  cases v <;> first | exact ⟨_, rfl⟩ | cases h
/-- there is room for one more line -/
structure Roomy (R : List (List PV)) (w : Nat) : Prop where
  h : R.length < 16777216
  w : w ≤ 1000
theorem rect_add {R : List (List PV)} {w : Nat} (hR : Rect R w) (hm : Roomy R w) {s : Tx} {c : PV} (hc : isCnt c = true) : Rect (addR s c R w) (if s = top ∨ s = bottom then w else w + 1) := by
  have w0 := hR.w0
  have hb : R.length + 1 ≤ big := hm.h
  have hw := hm.w
  unfold addR
  by_cases h1 : s = top
  · rw [if_pos h1, if_pos (.inl h1)]
    refine ⟨by simp, w0, fun r hr => ?_, fun r hr x hx => ?_, by simpa using hb, hR.big.2⟩
    · rcases List.mem_cons.mp hr with rfl | hr
      · simp
      · exact hR.len r hr
    · rcases List.mem_cons.mp hr with rfl | hr
      · rw [(List.mem_replicate.mp hx).2]; exact hc
      · exact hR.cnt r hr x hx
  · rw [if_neg h1]
    by_cases h2 : s = bottom
    · rw [if_pos h2, if_pos (.inr h2)]
      refine ⟨by simp, w0, fun r hr => ?_, fun r hr x hx => ?_, by simpa using hb, hR.big.2⟩
      · rcases List.mem_append.mp hr with hr | hr
        · exact hR.len r hr
        · rw [List.mem_singleton.mp hr]; simp
      · rcases List.mem_append.mp hr with hr | hr
        · exact hR.cnt r hr x hx
        · rw [List.mem_singleton.mp hr] at hx
          rw [(List.mem_replicate.mp hx).2]; exact hc
    · have h3 : ¬ (s = top ∨ s = bottom) := fun z => z.elim h1 h2
      have hw2 : w + 1 ≤ big := by unfold big; omega
      rw [if_neg h2, if_neg h3]
      split
      · refine ⟨fun z => hR.ne (List.map_eq_nil_iff.mp z), by omega, fun r hr => ?_, fun r hr x hx => ?_, by rw [List.length_map]; exact hR.big.1, hw2⟩
        · obtain ⟨r0, h0, rfl⟩ := List.mem_map.mp hr
          rw [List.length_cons, hR.len r0 h0]
        · obtain ⟨r0, h0, rfl⟩ := List.mem_map.mp hr
          rcases List.mem_cons.mp hx with rfl | hx
          · exact hc
          · exact hR.cnt r0 h0 x hx
      · refine ⟨fun z => hR.ne (List.map_eq_nil_iff.mp z), by omega, fun r hr => ?_, fun r hr x hx => ?_, by rw [List.length_map]; exact hR.big.1, hw2⟩
        · obtain ⟨r0, h0, rfl⟩ := List.mem_map.mp hr
          rw [List.length_append, hR.len r0 h0]; rfl
        · obtain ⟨r0, h0, rfl⟩ := List.mem_map.mp hr
          rcases List.mem_append.mp hx with hx | hx
          · exact hR.cnt r0 h0 x hx
          · rw [List.mem_singleton.mp hx]; exact hc
theorem r_added_side {Γ : Env} (h : S7 Γ) {R : List (List PV)} {v c : PV} (hs : isSide v = false) : runBody Γ f23_Picture_added [.sh (picV R), .sh v, .sh c] = .exc ⟨4, [v]⟩ [.emp, .emp, .emp] := by
  refine run_exc rfl ?_
  conv => whnf
  refine wC_exc (h.check_side_bad v hs) ?_
  conv => whnf
  exact ⟨rfl, rfl⟩
theorem r_added_colour {Γ : Env} (h : S7 Γ) {R : List (List PV)} {v c : PV} (hs : isSide v = true) (hc : isCnt c = false) : runBody Γ f23_Picture_added [.sh (picV R), .sh v, .sh c] = .exc ⟨3, [c]⟩ [.emp, .emp, .emp] := by
  refine run_exc rfl ?_
  conv => whnf
  refine wC_ok (h.check_side v hs) ?_
  conv => whnf
  refine wC_exc (h.check_colour_bad c hc) ?_
  conv => whnf
  exact ⟨rfl, rfl⟩
theorem add_tup {a b : List PV} (h : a.length + b.length ≤ 16777216) : binop .add (.tup a) (.tup b) = some (.sh (.tup (a ++ b))) := by
  show bAdd (.tup a) (.tup b) = _
  unfold bAdd
  exact if_pos h
def consT (c : PV) : PV → PV
  | .tup r => .tup (c :: r)
  | v => v
def snocT (c : PV) : PV → PV
  | .tup r => .tup (r ++ [c])
  | v => v
theorem r_added {Γ : Env} (h : S7 Γ) {R : List (List PV)} {w : Nat} (hR : Rect R w) (hm : Roomy R w) {s : Tx} {c : PV} (hs : isSide (.str s) = true) (hc : isCnt c = true) :
    runBody Γ f23_Picture_added [.sh (picV R), .sh (.str s), .sh c] = .ok (.obj 0 [.tup ((addR s c R w).map .tup)]) [.emp, .emp, .emp] := by
  refine run_eq rfl ?_
  have hC := rect_add hR hm (s := s) hc
  have hb := hm.h
  have hw := hm.w
  conv => whnf
  refine wC_ok (h.check_side _ hs) ?_
  conv => whnf
  refine wC_ok (h.check_colour _ hc) ?_
  conv => whnf
  refine wB_t rfl ?_
  conv => whnf
  refine wC_ok (width_of h.toS6 hR) ?_
  conv => whnf
  refine wO_s (mul_tup hR.w0 hm.w) ?_
  conv => whnf
  rcases side_cases hs with rfl | rfl | rfl | rfl
  · refine wB_t rfl ?_
    conv => whnf
    refine wB_t rfl ?_
    conv => whnf
    refine wO_s (add_tup (by rw [List.length_map, List.length_singleton]; omega)) ?_
    conv => whnf
    refine wC_ok (made h.toS6 (R := addR top c R w) (w := w) ⟨_, rfl, ?_⟩ hC) ?_
    · show (PV.tup (List.replicate w c) :: R.map PV.tup).map items = _
      rw [List.map_cons, List.map_map]; rfl
    · conv => whnf
      exact ⟨rfl, rfl⟩
  · refine wB_f rfl ?_
    conv => whnf
    refine wB_f rfl ?_
    conv => whnf
    refine wB_f rfl ?_
    conv => whnf
    refine wB_t rfl ?_
    conv => whnf
    refine wB_t (Bool.and_eq_true_iff.mpr ⟨rfl, decide_eq_true (by rw [List.length_map]; exact hR.big.1)⟩) ?_
    refine comp_map (snocT c) ?_ ?_
    · intro y hy
      obtain ⟨r, hr, rfl⟩ := List.mem_map.mp hy
      conv => whnf
      refine wO_s (add_tup (by rw [hR.len r hr, List.length_singleton]; omega)) ?_
      conv => whnf
      exact ⟨rfl, rfl⟩
    · conv => whnf
      refine wC_ok (made h.toS6 (R := addR right c R w) (w := w + 1) (rows_map fun r => rfl) hC) ?_
      conv => whnf
      exact ⟨rfl, rfl⟩
  · refine wB_f rfl ?_
    conv => whnf
    refine wB_t rfl ?_
    conv => whnf
    refine wB_t rfl ?_
    conv => whnf
    refine wO_s (add_tup (by rw [List.length_map, List.length_singleton]; omega)) ?_
    conv => whnf
    refine wC_ok (made h.toS6 (R := addR bottom c R w) (w := w) ⟨_, rfl, ?_⟩ hC) ?_
    · show (R.map PV.tup ++ [PV.tup (List.replicate w c)]).map items = (R ++ [List.replicate w c]).map some
      rw [List.map_append, List.map_append, List.map_map]; rfl
    · conv => whnf
      exact ⟨rfl, rfl⟩
  · refine wB_f rfl ?_
    conv => whnf
    refine wB_f rfl ?_
    conv => whnf
    refine wB_t rfl ?_
    conv => whnf
    refine wB_t rfl ?_
    conv => whnf
    refine wB_t (Bool.and_eq_true_iff.mpr ⟨rfl, decide_eq_true (by rw [List.length_map]; exact hR.big.1)⟩) ?_
    refine comp_map (consT c) ?_ ?_
    · intro y hy
      obtain ⟨r, hr, rfl⟩ := List.mem_map.mp hy
      conv => whnf
      refine wO_s (add_tup (by rw [hR.len r hr, List.length_singleton]; omega)) ?_
      conv => whnf
      exact ⟨rfl, rfl⟩
    · conv => whnf
      refine wC_ok (made h.toS6 (R := addR left c R w) (w := w + 1) (rows_map fun r => rfl) hC) ?_
      conv => whnf
      exact ⟨rfl, rfl⟩
end Lib
end PF
set_option Elab.async false
set_option linter.all false
set_option maxRecDepth 100000
set_option maxHeartbeats 2000000
/-! LS, part 6: the laws' own rows: lists of lists. -/
namespace PF
open PySem
namespace Lib
/-- rows as lists, as tuples -/
def lstV (R : List (List PV)) : PV := .lst (R.map .lst)
def tupV (R : List (List PV)) : PV := .tup (R.map .tup)
theorem rows_lst (R : List (List PV)) : RowsV (lstV R) R := ⟨_, rfl, by rw [List.map_map]; rfl⟩
theorem r_law_tuples {Γ : Env} {R : List (List PV)} (hb : R.length ≤ big) : runBody Γ f194_law_tuples [.sh (lstV R)] = .ok (.sh (tupV R)) [.emp] := by
  refine run_eq rfl ?_
  conv => whnf
  refine wB_t (Bool.and_eq_true_iff.mpr ⟨rfl, decide_eq_true (by rw [List.length_map]; exact hb)⟩) ?_
  refine comp_map rowT ?_ ?_
  · intro y hy
    obtain ⟨r, hr, rfl⟩ := List.mem_map.mp hy
    conv => whnf
    exact ⟨rfl, rfl⟩
  · conv => whnf
    refine ⟨?_, rfl⟩
    show OV.sh (PV.tup ((R.map PV.lst).map rowT)) = OV.sh (PV.tup (R.map PV.tup))
    rw [List.map_map]; rfl
inductive StepL where
  | turn | mir | cut (s : Tx) | add (s : Tx) (c : PV)
def wTurn : Tx := [116, 117, 114, 110]
def wMir : Tx := [109, 105, 114, 114, 111, 114]
def wCut : Tx := [99, 117, 116]
def wAdd : Tx := [97, 100, 100]
def StepL.pv : StepL → PV
  | .turn => .tup [.str wTurn]
  | .mir => .tup [.str wMir]
  | .cut s => .tup [.str wCut, .str s]
  | .add s c => .tup [.str wAdd, .str s, c]
def StepL.Ok : StepL → Prop
  | .cut s => isSide (.str s) = true
  | .add s c => isSide (.str s) = true ∧ isCnt c = true
  | _ => True
def afterR (st : StepL) (R : List (List PV)) (w : Nat) : Option (List (List PV)) := match st with
  | .turn => some (turnR R w)
  | .mir => some (R.map List.reverse)
  | .cut s => if lastL s R w then none else some (cutR s R)
  | .add s c => some (addR s c R w)
def optL : Option (List (List PV)) → OV
  | some R => .lst (R.map .lst)
  | none => .sh .non
theorem head_len {R : List (List PV)} {w : Nat} (hR : Rect R w) : ∃ r, index (lstV R) (.int 0) = some (.lst r) ∧ r.length = w := by
  cases R with
  | nil => exact absurd rfl hR.ne
  | cons r R => exact ⟨r, ix_zero (v := lstV (r :: R)) rfl, hR.len r List.mem_cons_self⟩
def revL : PV → PV
  | .lst r => .lst r.reverse
  | v => v
def tailL : PV → PV
  | .lst r => .lst r.tail
  | v => v
def initL : PV → PV
  | .lst r => .lst r.dropLast
  | v => v
def consL (c : PV) : PV → PV
  | .lst r => .lst (c :: r)
  | v => v
def snocL (c : PV) : PV → PV
  | .lst r => .lst (r ++ [c])
  | v => v
def colVL (R : List (List PV)) : PV → PV
  | .int i => .lst (colT R i.toNat)
  | v => v
def cellL (k : Nat) : PV → PV
  | .lst r => r.getD k .non
  | v => v
theorem mapL {R : List (List PV)} {f : PV → PV} {g : List PV → List PV} (h : ∀ r, f (.lst r) = .lst (g r)) : (R.map PV.lst).map f = (R.map g).map PV.lst := by
  rw [List.map_map, List.map_map]
  exact List.map_congr_left fun r _ => h r
theorem rng_len {w : Nat} (h : w ≤ big) : (rngL 0 (w : Int)).length ≤ big := by
  unfold rngL
  rw [List.length_map, List.length_range]
  omega
theorem rng_eq (w : Nat) : rngL 0 (w : Int) = (List.range w).map fun k => PV.int (k : Nat) := by
  unfold rngL
  have : ((w : Int) - 0).toNat = w := by omega
  rw [this]
  refine List.map_congr_left fun k _ => ?_
  rw [Int.zero_add]
theorem mul_lst {c : PV} {w : Nat} (h2 : w ≤ big) : binop .mul (.lst [c]) (.int (w : Nat)) = some (.lst (List.replicate w c)) := by
  have e : repOk 1 (w : Int) = true := by
    unfold repOk
    unfold big at *
    rw [Bool.and_eq_true, decide_eq_true_eq, decide_eq_true_eq]
    omega
  show (if repOk 1 (w : Int) = true then some (OV.lst (List.replicate (w : Int).toNat [c]).flatten) else none) = _
  rw [if_pos e, Int.toNat_natCast, rep_flat]
theorem add_lst {a b : List PV} (h : a.length + b.length ≤ 16777216) : binop .add (.lst a) (.lst b) = some (.lst (a ++ b)) := by
  show bAdd (.lst a) (.lst b) = _
  unfold bAdd
  exact if_pos h
theorem lastB {n : Nat} (h0 : 0 < n) : decide ((1 : Int) < (n : Int)) = !decide (n = 1) := by
  by_cases h : n = 1
  · rw [decide_eq_true h, decide_eq_false (by omega)]; rfl
  · rw [decide_eq_false h, decide_eq_true (by omega)]; rfl
theorem rows_pos {R : List (List PV)} {w : Nat} (hR : Rect R w) : 0 < R.length := List.length_pos_iff.mpr hR.ne
theorem r_law_after {Γ : Env} {R : List (List PV)} {w : Nat} (hR : Rect R w) (hm : Roomy R w) (st : StepL) (ok : st.Ok) :
    runBody Γ f196_law_after [.sh (lstV R), .sh st.pv] = .ok (optL (afterR st R w)) [.emp, .emp] := by
  refine run_eq rfl ?_
  have hb := hm.h
  have hw := hm.w
  have h0 := rows_pos hR
  have w0 := hR.w0
  obtain ⟨r0, e0, e1⟩ := head_len hR
  conv => whnf
  refine wO_s (e0) ?_
  conv => whnf
  cases st with
  | turn =>
    refine wB_t rfl ?_
    conv => whnf
    rw [e1]
    conv => whnf
    refine wB_t (rng_ok hR.big.2) ?_
    conv => whnf
    refine wB_t (Bool.and_eq_true_iff.mpr ⟨rfl, decide_eq_true (rng_len hR.big.2)⟩) ?_
    refine comp_map (colVL R) ?_ ?_
    · intro y hy
      obtain ⟨k, hk, rfl⟩ := mem_rng hy
      conv => whnf
      refine wB_t (Bool.and_eq_true_iff.mpr ⟨rfl, decide_eq_true (by rw [List.length_reverse, List.length_map]; exact hR.big.1)⟩) ?_
      refine comp_map (cellL k) ?_ ?_
      · intro z hz
        obtain ⟨r, hr, rfl⟩ := List.mem_map.mp (List.mem_reverse.mp hz)
        conv => whnf
        refine wO_s (index_at (v := .lst r) rfl (by rw [hR.len r hr]; exact hk)) ?_
        conv => whnf
        exact ⟨rfl, rfl⟩
      · conv => whnf
        refine ⟨?_, rfl⟩
        show some (PV.lst (((R.map PV.lst).reverse).map (cellL k))) = some (PV.lst (R.reverse.map fun r => r.getD k .non))
        rw [← List.map_reverse, List.map_map]
        rfl
    · conv => whnf
      refine ⟨?_, rfl⟩
      show OV.lst ((rngL 0 (w : Int)).map (colVL R)) = OV.lst ((turnR R w).map PV.lst)
      unfold turnR
      rw [rng_eq, List.map_map, List.map_map]
      rfl
  | mir =>
    refine wB_f rfl ?_
    conv => whnf
    refine wB_t rfl ?_
    conv => whnf
    refine wB_t (Bool.and_eq_true_iff.mpr ⟨rfl, decide_eq_true (by rw [List.length_map]; exact hR.big.1)⟩) ?_
    refine comp_map revL ?_ ?_
    · intro y hy
      obtain ⟨r, hr, rfl⟩ := List.mem_map.mp hy
      conv => whnf
      exact ⟨rfl, rfl⟩
    · conv => whnf
      refine ⟨?_, rfl⟩
      show OV.lst ((R.map PV.lst).map revL) = OV.lst ((R.map List.reverse).map PV.lst)
      rw [mapL fun r => rfl]
  | cut s =>
    have hs : isSide (.str s) = true := ok
    refine wB_f rfl ?_
    conv => whnf
    refine wB_f rfl ?_
    conv => whnf
    rcases side_cases hs with rfl | rfl | rfl | rfl
    · refine wB_t rfl ?_
      conv => whnf
      refine wB_t rfl ?_
      conv => whnf
      refine wB_i (fun q => ?_) fun q => ?_
      · conv => whnf
        refine wB_t rfl ?_
        conv => whnf
        have q : decide ((1 : Int) < ((R.map PV.lst).length : Int)) = true := q
        rw [List.length_map, lastB h0] at q
        refine ⟨?_, rfl⟩
        show OV.lst (cut (R.map PV.lst) (some 1) none) = optL (if lastL top R w = true then none else some (cutR top R))
        have e : lastL top R w = false := by unfold lastL; rw [if_pos (.inl rfl)]; simpa using q
        rw [e, cut_tail, ← List.map_tail]; rfl
      · conv => whnf
        have q : decide ((1 : Int) < ((R.map PV.lst).length : Int)) = false := q
        rw [List.length_map, lastB h0] at q
        refine ⟨?_, rfl⟩
        show OV.sh PV.non = optL (if lastL top R w = true then none else some (cutR top R))
        have e : lastL top R w = true := by unfold lastL; rw [if_pos (.inl rfl)]; simpa using q
        rw [e]; rfl
    · refine wB_f rfl ?_
      conv => whnf
      refine wB_t rfl ?_
      conv => whnf
      rw [e1]
      refine wB_i (fun q => ?_) fun q => ?_
      · have q : decide ((1 : Int) < (w : Int)) = true := q
        rw [lastB w0] at q
        have e : lastL right R w = false := by unfold lastL; rw [if_neg (by decide)]; simpa using q
        conv => whnf
        refine wB_t (Bool.and_eq_true_iff.mpr ⟨rfl, decide_eq_true (by rw [List.length_map]; exact hR.big.1)⟩) ?_
        refine comp_map initL ?_ ?_
        · intro y hy
          obtain ⟨r, hr, rfl⟩ := List.mem_map.mp hy
          conv => whnf
          refine wB_f rfl ?_
          conv => whnf
          refine ⟨?_, rfl⟩
          show some (PV.lst (cut r none (some (-1)))) = _
          rw [cut_init]; rfl
        · conv => whnf
          refine ⟨?_, rfl⟩
          show OV.lst ((R.map PV.lst).map initL) = optL (if lastL right R w = true then none else some (cutR right R))
          rw [e, mapL (g := List.dropLast) fun r => rfl]; rfl
      · have q : decide ((1 : Int) < (w : Int)) = false := q
        rw [lastB w0] at q
        have e : lastL right R w = true := by unfold lastL; rw [if_neg (by decide)]; simpa using q
        conv => whnf
        refine ⟨?_, rfl⟩
        show OV.sh PV.non = optL (if lastL right R w = true then none else some (cutR right R))
        rw [e]; rfl
    · refine wB_t rfl ?_
      conv => whnf
      refine wB_t rfl ?_
      conv => whnf
      refine wB_i (fun q => ?_) fun q => ?_
      · conv => whnf
        refine wB_f rfl ?_
        conv => whnf
        have q : decide ((1 : Int) < ((R.map PV.lst).length : Int)) = true := q
        rw [List.length_map, lastB h0] at q
        refine ⟨?_, rfl⟩
        show OV.lst (cut (R.map PV.lst) none (some (-1))) = optL (if lastL bottom R w = true then none else some (cutR bottom R))
        have e : lastL bottom R w = false := by unfold lastL; rw [if_pos (.inr rfl)]; simpa using q
        rw [e, cut_init, ← List.map_dropLast]; rfl
      · conv => whnf
        have q : decide ((1 : Int) < ((R.map PV.lst).length : Int)) = false := q
        rw [List.length_map, lastB h0] at q
        refine ⟨?_, rfl⟩
        show OV.sh PV.non = optL (if lastL bottom R w = true then none else some (cutR bottom R))
        have e : lastL bottom R w = true := by unfold lastL; rw [if_pos (.inr rfl)]; simpa using q
        rw [e]; rfl
    · refine wB_f rfl ?_
      conv => whnf
      refine wB_t rfl ?_
      conv => whnf
      rw [e1]
      refine wB_i (fun q => ?_) fun q => ?_
      · have q : decide ((1 : Int) < (w : Int)) = true := q
        rw [lastB w0] at q
        have e : lastL left R w = false := by unfold lastL; rw [if_neg (by decide)]; simpa using q
        conv => whnf
        refine wB_t (Bool.and_eq_true_iff.mpr ⟨rfl, decide_eq_true (by rw [List.length_map]; exact hR.big.1)⟩) ?_
        refine comp_map tailL ?_ ?_
        · intro y hy
          obtain ⟨r, hr, rfl⟩ := List.mem_map.mp hy
          conv => whnf
          refine wB_t rfl ?_
          conv => whnf
          refine ⟨?_, rfl⟩
          show some (PV.lst (cut r (some 1) none)) = _
          rw [cut_tail]; rfl
        · conv => whnf
          refine ⟨?_, rfl⟩
          show OV.lst ((R.map PV.lst).map tailL) = optL (if lastL left R w = true then none else some (cutR left R))
          rw [e, mapL (g := List.tail) fun r => rfl]; rfl
      · have q : decide ((1 : Int) < (w : Int)) = false := q
        rw [lastB w0] at q
        have e : lastL left R w = true := by unfold lastL; rw [if_neg (by decide)]; simpa using q
        conv => whnf
        refine ⟨?_, rfl⟩
        show OV.sh PV.non = optL (if lastL left R w = true then none else some (cutR left R))
        rw [e]; rfl
  | add s c =>
    have hs : isSide (.str s) = true := ok.1
    refine wB_f rfl ?_
    conv => whnf
    refine wB_f rfl ?_
    conv => whnf
    rcases side_cases hs with rfl | rfl | rfl | rfl
    · refine wB_t rfl ?_
      conv => whnf
      refine wB_f rfl ?_
      conv => whnf
      refine wB_t rfl ?_
      conv => whnf
      rw [e1]
      refine wO_s (mul_lst hR.big.2) ?_
      conv => whnf
      refine wO_s (add_lst (by rw [List.length_map, List.length_singleton]; omega)) ?_
      conv => whnf
      exact ⟨rfl, rfl⟩
    · refine wB_f rfl ?_
      conv => whnf
      refine wB_f rfl ?_
      conv => whnf
      refine wB_t (Bool.and_eq_true_iff.mpr ⟨rfl, decide_eq_true (by rw [List.length_map]; exact hR.big.1)⟩) ?_
      refine comp_map (snocL c) ?_ ?_
      · intro y hy
        obtain ⟨r, hr, rfl⟩ := List.mem_map.mp hy
        conv => whnf
        refine wB_f rfl ?_
        conv => whnf
        refine wO_s (add_lst (by rw [hR.len r hr, List.length_singleton]; omega)) ?_
        conv => whnf
        exact ⟨rfl, rfl⟩
      · conv => whnf
        refine ⟨?_, rfl⟩
        show OV.lst ((R.map PV.lst).map (snocL c)) = OV.lst ((R.map (· ++ [c])).map PV.lst)
        rw [mapL fun r => rfl]
    · refine wB_t rfl ?_
      conv => whnf
      refine wB_f rfl ?_
      conv => whnf
      refine wB_f rfl ?_
      conv => whnf
      rw [e1]
      refine wO_s (mul_lst hR.big.2) ?_
      conv => whnf
      refine wO_s (add_lst (by rw [List.length_map, List.length_singleton]; omega)) ?_
      conv => whnf
      refine ⟨?_, rfl⟩
      show OV.lst (R.map PV.lst ++ [PV.lst (List.replicate w c)]) = OV.lst ((R ++ [List.replicate w c]).map PV.lst)
      rw [List.map_append]; rfl
    · refine wB_f rfl ?_
      conv => whnf
      refine wB_f rfl ?_
      conv => whnf
      refine wB_t (Bool.and_eq_true_iff.mpr ⟨rfl, decide_eq_true (by rw [List.length_map]; exact hR.big.1)⟩) ?_
      refine comp_map (consL c) ?_ ?_
      · intro y hy
        obtain ⟨r, hr, rfl⟩ := List.mem_map.mp hy
        conv => whnf
        refine wB_t rfl ?_
        conv => whnf
        refine wO_s (add_lst (by rw [hR.len r hr, List.length_singleton]; omega)) ?_
        conv => whnf
        exact ⟨rfl, rfl⟩
      · conv => whnf
        refine ⟨?_, rfl⟩
        show OV.lst ((R.map PV.lst).map (consL c)) = OV.lst ((R.map (c :: ·)).map PV.lst)
        rw [mapL fun r => rfl]
end Lib
end PF
set_option Elab.async false
set_option linter.all false
set_option maxRecDepth 100000
set_option maxHeartbeats 2000000
/-! LS, part 7: the laws' pools, draws, random pictures. -/
namespace PF
open PySem
theorem run_ex {Γ : Env} {fn : Fn} {args : List OV} {P : OV → List OV → Prop} (hl : args.length = fn.np) (h : wrun Γ fn args P fun _ _ => False) : ∃ o outs, runBody Γ fn args = .ok o outs ∧ P o outs := by
  rcases wrun_ok hl h with ⟨o, outs, e, q⟩ | ⟨_, _, _, z⟩
  · exact ⟨o, outs, e, q⟩
  · exact z.elim
/-- a call that gives one of some answers -/
theorem wC_ex {r : Res OV} {K : OV → List OV → Prop} {X : PExc → List OV → Prop} {P : OV → List OV → Prop} (h : ∃ o outs, r = .ok o outs ∧ P o outs) (k : ∀ o outs, P o outs → K o outs) : wC r K X := by
  obtain ⟨o, outs, e, q⟩ := h
  exact wC_ok e (k o outs q)
section
variable {Γ : Env} {own : List Nat} {X : PExc → S → Prop}
theorem compL_inv {b : PV → S → CR (Option PV)} (hb : ∀ x s, ∃ r, Snd (b x s) r) (J : List PV → List PV → S → Prop) {K : List PV → S → Prop} : ∀ (xs acc : List PV) (s : S), J xs acc s →
    (∀ x r acc s, J (x :: r) acc s → (b x (wipeS s own)).run (fun o s2 => match o with
      | some y => J r (acc ++ [y]) s2
      | none => J r acc s2) fun _ _ => False) → (∀ acc s, J [] acc s → K acc s) → (wcompL0 own b xs acc s).run K X
  | [], acc, s, h, _, hk => forceS_iff.mpr (hk acc s h)
  | x :: xs, acc, s, h, ht, hk => by
    obtain ⟨r, hr⟩ := hb x (wipeS s own)
    refine hr.mono (ht x xs acc s h) (fun o s2 q => ?_) fun _ _ q => q
    cases o with
    | some y => exact compL_inv hb J xs _ s2 q ht hk
    | none => exact compL_inv hb J xs _ s2 q ht hk
theorem comp_inv {tg : Tg} {elt : Ex} {s1 s0 : S} {xs : List PV} {K : OV → S → Prop} (J : List PV → List PV → S → Prop) (h : J xs [] s0)
    (ht : ∀ x r acc s, J (x :: r) acc s → (cBody Γ tg elt x (wipeS s own)).run (fun o s2 => match o with
      | some y => J r (acc ++ [y]) s2
      | none => J r acc s2) fun _ _ => False) (hk : ∀ acc s, J [] acc s → (CR.ok (OV.lst acc) (back s1 own s)).run K X) :
    Seal ((wcompL0 own (cBody Γ tg elt) xs [] s0).run (fun ys s2 => (CR.ok (OV.lst ys) (back s1 own s2)).run K X) X) :=
  .mk <| compL_inv snd_cBody J xs [] s0 h ht hk
end
namespace Lib
/-! ### numbers -/
theorem mul_ok {a b : Int} (h : mulOk a b = true) : binop .mul (.int a) (.int b) = some (.sh (.int (a * b))) := by
  show (if mulOk a b = true then some (OV.sh (.int (a * b))) else none) = _
  rw [if_pos h]
theorem mulOkL {a b : Int} (h : a.natAbs < 18446744073709551616) : mulOk a b = true := by
  unfold mulOk
  rw [decide_eq_true h]; rfl
theorem mulOkR {a b : Int} (h : b.natAbs < 18446744073709551616) : mulOk a b = true := by
  unfold mulOk
  rw [decide_eq_true h, Bool.or_true]
theorem mod_ok {a b : Int} (h : 0 < b) : binop .mod (.int a) (.int b) = some (.sh (.int (a % b))) := by
  show (if 0 < b then some (OV.sh (.int (a % b))) else none) = _
  rw [if_pos h]
theorem div_ok {a b : Int} (h : 0 < b) (h2 : b < 1073741824) : binop .fdiv (.int a) (.int b) = some (.sh (.int (a / b))) := by
  show (if 0 < b ∧ b < 1073741824 then some (OV.sh (.int (a / b))) else none) = _
  rw [if_pos ⟨h, h2⟩]
theorem toInts_map (ns : List Int) : toInts (ns.map PV.int) = some ns := by
  induction ns with
  | nil => rfl
  | cons n ns ih => show (toInts (ns.map PV.int)).map (n :: ·) = _; rw [ih]; rfl
theorem sum_cut (ns : List Int) (lo hi : Option Int) : ∃ z, bi .sum [.lst (cut (ns.map PV.int) lo hi)] = some (.sh (.int z)) := by
  have e : cut (ns.map PV.int) lo hi = (cut ns lo hi).map PV.int := by
    unfold cut
    rw [List.map_take, List.map_drop, List.length_map]
  refine ⟨(cut ns lo hi).sum, ?_⟩
  show (toInts (cut (ns.map PV.int) lo hi)).map (fun ns => OV.sh (.int ns.sum)) = _
  rw [e, toInts_map]; rfl
def pool (a b : Int) : OV := .lst [.int a, .int b]
structure PoolOk (a b : Int) : Prop where
  a0 : 0 ≤ a
  b0 : 0 ≤ b
  b1 : b < 2147483647
theorem b2_le (b : Bool) : (b2 b).natAbs < 18446744073709551616 := by cases b <;> decide
theorem b2_nn (b : Bool) : 0 ≤ b2 b := by cases b <;> decide
/-- the second half, from the cell -/
theorem pool_fin (c k : Int) : ∃ a b, PoolOk a b ∧ a = (if c < 0 then -c else c) * b2 (decide ((10 : Int) ^ (18 : Int).toNat ≤ (if c < 0 then -c else c))) ∧
    b = (((if c < 0 then -c else c) % 2147483629 + 7919 * k * k + 31 * k + 17) * 48271 % 2147483647) * (((if c < 0 then -c else c) % 2147483629 + 7919 * k * k + 31 * k + 17) * 48271 % 2147483647) % 2147483629 := by
  refine ⟨_, _, ⟨?_, ?_, ?_⟩, rfl, rfl⟩
  · refine Int.mul_nonneg ?_ (b2_nn _)
    split <;> omega
  · exact Int.emod_nonneg _ (by decide)
  · exact Int.lt_trans (Int.emod_lt_of_pos _ (by decide)) (by decide)
theorem r_law_pool {Γ : Env} (ns : List Int) (k : Nat) (hk : k < 1000) : ∃ o outs, runBody Γ f191_law_pool [.sh (.frz (ns.map .int)), .sh (.int (k : Nat))] = .ok o outs ∧ ∃ a b, PoolOk a b ∧ o = pool a b ∧ outs = [.emp, .emp] := by
  refine run_ex rfl ?_
  conv => whnf
  obtain ⟨z, hz⟩ := sum_cut ns none (some 63)
  refine wO_s (hz) ?_
  conv => whnf
  have fin : ∀ c : Int, mulOk (if c < 0 then -c else c) (b2 (decide ((10 : Int) ^ (18 : Int).toNat ≤ (if c < 0 then -c else c)))) = true := fun c => mulOkR (b2_le _)
  have m1 : ∀ c k : Int, mulOk ((((if c < 0 then -c else c) % 2147483629 + 7919 * k * k + 31 * k + 17) * 48271 % 2147483647)) (((if c < 0 then -c else c) % 2147483629 + 7919 * k * k + 31 * k + 17) * 48271 % 2147483647) = true := fun c k => mulOkR (by
    have h1 := Int.emod_nonneg (((if c < 0 then -c else c) % 2147483629 + 7919 * k * k + 31 * k + 17) * 48271) (show (2147483647 : Int) ≠ 0 by decide)
    have h2 := Int.emod_lt_of_pos (((if c < 0 then -c else c) % 2147483629 + 7919 * k * k + 31 * k + 17) * 48271) (show (0 : Int) < 2147483647 by decide)
    omega)
  refine wB_i (fun q => ?_) fun q => ?_
  · have q : decide ((k : Int) < (((ns.map PV.int).length : Nat) : Int)) = true := q
    rw [decide_eq_true_eq, List.length_map] at q
    conv => whnf
    refine wO_s (index_at (v := .frz (ns.map .int)) (k := k) rfl (by rw [List.length_map]; omega)) ?_
    have e : (ns.map PV.int).getD k .non = .int (ns.getD k 0) := by
      rw [List.getD, List.getElem?_map, List.getD, List.getElem?_eq_getElem (by omega)]; rfl
    rw [e]
    generalize ns.getD k 0 = c
    conv => whnf
    refine wO_s (mul_ok (mulOkR (by omega))) ?_
    conv => whnf
    refine wO_s (mul_ok (mulOkR (by decide))) ?_
    conv => whnf
    refine wO_s (mul_ok (fin c)) ?_
    conv => whnf
    refine wO_s (mul_ok (m1 c k)) ?_
    conv => whnf
    obtain ⟨a, b, ok, rfl, rfl⟩ := pool_fin c k
    exact ⟨_, _, ok, rfl, rfl⟩
  · conv => whnf
    generalize 11 * z + (k : Int) = c
    refine wO_s (mul_ok (mulOkR (by omega))) ?_
    conv => whnf
    refine wO_s (mul_ok (mulOkR (by decide))) ?_
    conv => whnf
    refine wO_s (mul_ok (fin c)) ?_
    conv => whnf
    refine wO_s (mul_ok (m1 c k)) ?_
    conv => whnf
    obtain ⟨a, b, ok, rfl, rfl⟩ := pool_fin c k
    exact ⟨_, _, ok, rfl, rfl⟩
/-- a number that is drawn -/
def Drawn (m : Int) (o : OV) (outs : List OV) : Prop := ∃ r a b, PoolOk a b ∧ 0 ≤ r ∧ r < m ∧ o = .sh (.int r) ∧ outs = [pool a b, .emp]
theorem ix0 (a b : PV) : index (.lst [a, b]) (.int 0) = some a := rfl
theorem r_law_draw {Γ : Env} {a b m : Int} (h : PoolOk a b) (h0 : 0 < m) (h1 : m < 1073741824) : ∃ o outs, runBody Γ f192_law_draw [pool a b, .sh (.int m)] = .ok o outs ∧ Drawn m o outs := by
  refine run_ex rfl ?_
  conv => whnf
  have b0 := h.b0
  have b1 := h.b1
  refine wB_i (fun q => ?_) fun q => ?_
  · have q : decide ((0 : Int) < a) = true := q
    rw [decide_eq_true_eq] at q
    conv => whnf
    refine wO_s (mod_ok h0) ?_
    conv => whnf
    refine wO_s (div_ok h0 h1) ?_
    conv => whnf
    exact ⟨_, _, _, ⟨Int.ediv_nonneg (by omega) (by omega), b0, b1⟩, Int.emod_nonneg _ (by omega), Int.emod_lt_of_pos _ h0, rfl, rfl⟩
  · conv => whnf
    refine wO_s (mul_ok (mulOkR (by decide))) ?_
    conv => whnf
    have n1 := Int.emod_nonneg (b * 48271 + 11) (show (2147483647 : Int) ≠ 0 by decide)
    have n2 := Int.emod_lt_of_pos (b * 48271 + 11) (show (0 : Int) < 2147483647 by decide)
    refine wO_s (mul_ok (mulOkR (by omega))) ?_
    conv => whnf
    refine wO_s (mod_ok h0) ?_
    conv => whnf
    exact ⟨_, _, _, ⟨h.a0, n1, n2⟩, Int.emod_nonneg _ (by omega), Int.emod_lt_of_pos _ h0, rfl, rfl⟩
structure SD (Γ : Env) : Prop where
  draw : ∀ a b m, PoolOk a b → 0 < m → m < 1073741824 → ∃ o outs, Γ.rho 192 [pool a b, .sh (.int m)] = .ok o outs ∧ Drawn m o outs
  c192 : Γ.cst 192 = [0]
/-- drawn rows -/
def DrawnRows (most colours : Int) (o : OV) (outs : List OV) : Prop := ∃ R w a b, PoolOk a b ∧ Rect R w ∧ (R.length : Int) ≤ most ∧ (w : Int) ≤ most ∧ o = .lst (R.map .lst) ∧ outs = [pool a b, .emp, .emp]
theorem r_law_random_picture {Γ : Env} (h : SD Γ) {a b m c : Int} (hp : PoolOk a b) (h0 : 0 < m) (h1 : m ≤ 1000) (h2 : 0 < c) (h3 : c < 1073741824) : ∃ o outs, runBody Γ f193_law_random_picture [pool a b, .sh (.int m), .sh (.int c)] = .ok o outs ∧ DrawnRows m c o outs := by
  refine run_ex rfl ?_
  conv => whnf
  simp only [h.c192]
  conv => whnf
  refine wC_ex (h.draw a b m hp h0 (by omega)) fun o outs q => ?_
  obtain ⟨r, a1, b1, p1, r0, r1, rfl, rfl⟩ := q
  conv => whnf
  simp only [h.c192]
  conv => whnf
  refine wC_ex (h.draw a1 b1 m p1 h0 (by omega)) fun o outs q => ?_
  obtain ⟨r', a2, b2, p2, r0', r1', rfl, rfl⟩ := q
  conv => whnf
  obtain ⟨k, rfl⟩ := Int.eq_ofNat_of_zero_le r0
  obtain ⟨k', rfl⟩ := Int.eq_ofNat_of_zero_le r0'
  have e : 1 + (k : Int) = ((k + 1 : Nat) : Int) := by omega
  have e' : 1 + (k' : Int) = ((k' + 1 : Nat) : Int) := by omega
  rw [e, e']
  have hk : k + 1 ≤ big := by unfold big; omega
  have hk' : k' + 1 ≤ big := by unfold big; omega
  refine wB_t (rng_ok hk) ?_
  conv => whnf
  refine wB_t (Bool.and_eq_true_iff.mpr ⟨rfl, decide_eq_true (rng_len hk)⟩) ?_
  refine comp_inv (fun xs acc s => ∃ a b u, PoolOk a b ∧ s = [pool a b, .sh (.int m), .sh (.int c), .sh (.int ((k + 1 : Nat) : Int)), .sh (.int ((k' + 1 : Nat) : Int)), u, .emp] ∧ acc.length + xs.length = k + 1 ∧
    ∃ R : List (List PV), acc = R.map .lst ∧ ∀ r, r ∈ R → r.length = k' + 1 ∧ ∀ x, x ∈ r → isCnt x = true) ?_ ?_ ?_
  · refine ⟨a2, b2, _, p2, rfl, ?_, [], rfl, fun r hr => by cases hr⟩
    unfold rngL
    rw [List.length_map, List.length_range, List.length_nil]
    omega
  · intro x xs acc s ⟨a, b, u, ok, es, hl0, R, eR, hR⟩
    subst es eR
    conv => whnf
    refine wB_t (rng_ok hk') ?_
    conv => whnf
    refine wB_t (Bool.and_eq_true_iff.mpr ⟨rfl, decide_eq_true (rng_len hk')⟩) ?_
    refine comp_inv (fun xs acc s => ∃ a b u, PoolOk a b ∧ s = [pool a b, .sh (.int m), .sh (.int c), .sh (.int ((k + 1 : Nat) : Int)), .sh (.int ((k' + 1 : Nat) : Int)), .sh x, u] ∧ acc.length + xs.length = k' + 1 ∧ ∀ x, x ∈ acc → isCnt x = true) ?_ ?_ ?_
    · refine ⟨a, b, _, ok, rfl, ?_, fun r hr => by cases hr⟩
      unfold rngL
      rw [List.length_map, List.length_range, List.length_nil]
      omega
    · intro y ys acc s ⟨a, b, u, ok, es, hl, hc⟩
      subst es
      conv => whnf
      simp only [h.c192]
      conv => whnf
      refine wC_ex (h.draw a b c ok h2 h3) fun o outs q => ?_
      obtain ⟨r, a1, b1, p1, r0, r1, rfl, rfl⟩ := q
      conv => whnf
      refine ⟨a1, b1, _, p1, rfl, by simp at hl ⊢; omega, fun z hz => ?_⟩
      rcases List.mem_append.mp hz with hz | hz
      · exact hc z hz
      · rw [List.mem_singleton.mp hz]; exact decide_eq_true r0
    · intro row s ⟨a, b, u, ok, es, hl, hc⟩
      subst es
      conv => whnf
      refine ⟨a, b, _, ok, rfl, by simp at hl0 ⊢; omega, R ++ [row], by simp, fun r hr => ?_⟩
      rcases List.mem_append.mp hr with hr | hr
      · exact hR r hr
      · rw [List.mem_singleton.mp hr]; exact ⟨by simpa using hl, hc⟩
  · intro acc s ⟨a, b, u, ok, es, hl, R, eR, hR⟩
    subst es eR
    conv => whnf
    have hl : R.length = k + 1 := by simpa using hl
    refine ⟨R, k' + 1, a, b, ok, ⟨fun z => ?_, by omega, fun r hr => (hR r hr).1, fun r hr => (hR r hr).2, by omega, hk'⟩, by omega, by omega, rfl, rfl⟩
    rw [z] at hl
    simp at hl
end Lib
end PF
set_option Elab.async false
set_option linter.all false
set_option maxRecDepth 100000
set_option maxHeartbeats 4000000
noncomputable section
namespace PF.K03
open PySem PySem.Spec PyProof.Rows PF
def f_law_done : Fn := ⟨[[112, 105, 99, 116, 117, 114, 101], [115, 116, 101, 112], [101]], 2, [],
  (.cons (.tryx (.cons (.ifs (.cmp .eq (.ix (.var 1) (.int 0)) (.str [116, 117, 114, 110]))
  (.cons (.ret (.prop 5 0 (.meth 20 0 0 (.var 0) .nil)))
  .nil)
  .nil)
  (.cons (.ifs (.cmp .eq (.ix (.var 1) (.int 0)) (.str [109, 105, 114, 114, 111, 114]))
  (.cons (.ret (.prop 5 0 (.meth 21 0 0 (.var 0) .nil)))
  .nil)
  .nil)
  (.cons (.ifs (.cmp .eq (.ix (.var 1) (.int 0)) (.str [99, 117, 116]))
  (.cons (.ret (.prop 5 0 (.meth 22 0 0 (.var 0) (.cons (.ix (.var 1) (.int 1)) .nil))))
  .nil)
  .nil)
  (.cons (.ret (.prop 5 0 (.meth 23 0 0 (.var 0) (.cons (.ix (.var 1) (.int 1)) (.cons (.ix (.var 1) (.int 2)) .nil)))))
  .nil))))
  (.cons 6 (some 2) (.ret (.lst (.cons (.str [108, 97, 115, 116]) (.cons (.fld 6 0) .nil))))
  (.cons 4 (some 2) (.ret (.lst (.cons (.str [115, 105, 100, 101]) (.cons (.rpr 4 0) .nil))))
  (.cons 3 (some 2) (.ret (.lst (.cons (.str [99, 111, 108, 111, 117, 114]) (.cons (.rpr 3 0) .nil))))
  .nil))))
  .nil), []⟩
def f_law : Fn := ⟨[[115, 99, 114, 105, 112, 116], [107], [112, 111, 111, 108], [114, 111, 119, 115], [112, 105, 99, 116, 117, 114, 101], [115, 116, 101, 112, 115], [115, 105, 100, 101], [115, 116, 101, 112], [116, 104, 105, 110, 103], [101, 120, 112, 101, 99, 116, 101, 100]], 1, [],
  (.cons (.for_ (.v 1) (.rng (.bi .max2 (.cons (.int 1) (.cons (.bi .min2 (.cons (.bi .len (.cons (.var 0) .nil)) (.cons (.int 8) .nil))) .nil))))
  (.cons (.set (.v 2) (.call 191 (.cons (.var 0) (.cons (.var 1) .nil))))
  (.cons (.set (.v 3) (.call 193 (.cons (.var 2) (.cons (.int 5) (.cons (.int 9) .nil)))))
  (.cons (.set (.v 4) (.ext (.new 4 0 0) (.cons (.var 3) .nil)))
  (.cons (.set (.v 5) (.lst (.cons (.tup (.cons (.str [116, 117, 114, 110]) .nil)) (.cons (.tup (.cons (.str [109, 105, 114, 114, 111, 114]) .nil)) .nil))))
  (.cons (.for_ (.v 6) (.seq (.lst (.cons (.str [116, 111, 112]) (.cons (.str [114, 105, 103, 104, 116]) (.cons (.str [98, 111, 116, 116, 111, 109]) (.cons (.str [108, 101, 102, 116]) .nil))))))
  (.cons (.set (.v 5) (.bin .add (.var 5) (.lst (.cons (.tup (.cons (.str [99, 117, 116]) (.cons (.var 6) .nil))) (.cons (.tup (.cons (.str [97, 100, 100]) (.cons (.var 6) (.cons (.call 192 (.cons (.var 2) (.cons (.bin .pow (.int 10) (.int 9)) .nil))) .nil)))) .nil)))))
  .nil))
  (.cons (.for_ (.v 7) (.seq (.var 5))
  (.cons (.set (.v 9) (.call 196 (.cons (.var 3) (.cons (.var 7) .nil))))
  (.cons (.set (.v 9) (.ite (.isN false (.var 9)) (.lst (.cons (.str [108, 97, 115, 116]) (.cons (.int 0) .nil))) (.call 194 (.cons (.var 9) .nil))))
  (.cons (.ifs (.or (.cmp .ne (.call 220 (.cons (.var 4) (.cons (.var 7) .nil))) (.var 9)) (.cmp .ne (.prop 5 0 (.var 4)) (.call 194 (.cons (.var 3) .nil))))
  (.cons (.ret (.bl false))
  .nil)
  .nil)
  .nil))))
  (.cons (.for_ (.v 8) (.seq (.lst (.cons .non (.cons (.str [117, 112]) (.cons (.str [84, 111, 112]) (.cons (.int 0) (.cons (.lst .nil) (.cons (.tup (.cons (.str [116, 111, 112]) .nil)) (.cons (.bl true) .nil)))))))))
  (.cons (.ifs (.cmp .ne (.call 220 (.cons (.var 4) (.cons (.tup (.cons (.str [99, 117, 116]) (.cons (.var 8) .nil))) .nil))) (.lst (.cons (.str [115, 105, 100, 101]) (.cons (.bi .repr (.cons (.var 8) .nil)) .nil))))
  (.cons (.ret (.bl false))
  .nil)
  .nil)
  (.cons (.ifs (.cmp .ne (.call 220 (.cons (.var 4) (.cons (.tup (.cons (.str [97, 100, 100]) (.cons (.var 8) (.cons .non .nil)))) .nil))) (.lst (.cons (.str [115, 105, 100, 101]) (.cons (.bi .repr (.cons (.var 8) .nil)) .nil))))
  (.cons (.ret (.bl false))
  .nil)
  .nil)
  .nil)))
  (.cons (.for_ (.v 8) (.seq (.lst (.cons .non (.cons (.neg (.int 1)) (.cons (.bl true) (.cons (.str [49]) (.cons (.tup (.cons (.int 1) .nil)) .nil)))))))
  (.cons (.ifs (.cmp .ne (.call 220 (.cons (.var 4) (.cons (.tup (.cons (.str [97, 100, 100]) (.cons (.str [108, 101, 102, 116]) (.cons (.var 8) .nil)))) .nil))) (.lst (.cons (.str [99, 111, 108, 111, 117, 114]) (.cons (.bi .repr (.cons (.var 8) .nil)) .nil))))
  (.cons (.ret (.bl false))
  .nil)
  .nil)
  .nil))
  .nil)))))))))
  (.cons (.ret (.bl true))
  .nil)), []⟩
def tops (i : Nat) : Stmt := PySem.Challenge.pw_pictureframes_k03_single_steps.main.body.getD i (.Pass ⟨0, 0, 0, 0⟩)
def inn (i k : Nat) : Stmt := match tops i with
  | .ClassDef _ _ _ b _ _ _ _ _ _ _ => b.getD k (.Pass ⟨0, 0, 0, 0⟩)
  | s => s
def gl : List (Tx × PV) := [([83, 73, 68, 69, 83], (.tup [(.str [116, 111, 112]), (.str [114, 105, 103, 104, 116]), (.str [98, 111, 116, 116, 111, 109]), (.str [108, 101, 102, 116])])), ([], .non), ([], .non), ([], .non), ([], .non), ([], .non), ([], .non), ([], .non), ([], .non), ([], .non), ([], .non), ([], .non), ([], .non), ([], .non), ([], .non), ([], .non), ([], .non), ([], .non), ([], .non), ([], .non), ([], .non), ([], .non), ([], .non), ([], .non)]
def off : Dn := ⟨[], [], .Pass ⟨0, 0, 0, 0⟩, ⟨[], 0, [], .nil, []⟩, none, [0], false⟩
def P : List Dn := [⟨[105, 115, 95, 105, 110, 116, 101, 103, 101, 114], [105, 115, 95, 105, 110, 116, 101, 103, 101, 114], tops 10, Lib.f0_is_integer, none, [0], true⟩,
  ⟨[105, 115, 95, 99, 111, 117, 110, 116], [105, 115, 95, 99, 111, 117, 110, 116], tops 11, Lib.f1_is_count, none, [0], true⟩,
  ⟨[105, 115, 95, 108, 105, 110, 101], [105, 115, 95, 108, 105, 110, 101], tops 15, Lib.f2_is_line, none, [0], true⟩,
  ⟨[97, 114, 101, 95, 114, 111, 119, 115], [97, 114, 101, 95, 114, 111, 119, 115], tops 16, Lib.f3_are_rows, none, [0], true⟩,
  ⟨[95, 95, 105, 110, 105, 116, 95, 95], [80, 105, 99, 116, 117, 114, 101, 46, 95, 95, 105, 110, 105, 116, 95, 95], inn 17 0, Lib.f4_Picture___init, some (0, .init), [0], true⟩,
  ⟨[114, 111, 119, 115], [80, 105, 99, 116, 117, 114, 101, 46, 114, 111, 119, 115], inn 17 3, Lib.f5_Picture_rows, some (0, .prop), [0], true⟩,
  ⟨[104, 101, 105, 103, 104, 116], [80, 105, 99, 116, 117, 114, 101, 46, 104, 101, 105, 103, 104, 116], inn 17 4, Lib.f6_Picture_height, some (0, .prop), [0], true⟩,
  ⟨[119, 105, 100, 116, 104], [80, 105, 99, 116, 117, 114, 101, 46, 119, 105, 100, 116, 104], inn 17 5, Lib.f7_Picture_width, some (0, .prop), [0], true⟩,
  off,
  off,
  off,
  off,
  off,
  ⟨[105, 115, 95, 115, 105, 100, 101], [105, 115, 95, 115, 105, 100, 101], tops 12, Lib.f13_is_side, none, [0], true⟩,
  ⟨[99, 104, 101, 99, 107, 95, 99, 111, 108, 111, 117, 114], [99, 104, 101, 99, 107, 95, 99, 111, 108, 111, 117, 114], tops 13, Lib.f14_check_colour, none, [0], true⟩,
  ⟨[99, 104, 101, 99, 107, 95, 115, 105, 100, 101], [99, 104, 101, 99, 107, 95, 115, 105, 100, 101], tops 14, Lib.f15_check_side, none, [0], true⟩,
  off,
  off,
  off,
  off,
  ⟨[116, 117, 114, 110, 101, 100], [80, 105, 99, 116, 117, 114, 101, 46, 116, 117, 114, 110, 101, 100], inn 17 10, Lib.f20_Picture_turned, some (0, .meth), [0], true⟩,
  ⟨[109, 105, 114, 114, 111, 114, 101, 100], [80, 105, 99, 116, 117, 114, 101, 46, 109, 105, 114, 114, 111, 114, 101, 100], inn 17 11, Lib.f21_Picture_mirrored, some (0, .meth), [0], true⟩,
  ⟨[99, 117, 116], [80, 105, 99, 116, 117, 114, 101, 46, 99, 117, 116], inn 17 12, Lib.f22_Picture_cut, some (0, .meth), [0], true⟩,
  ⟨[97, 100, 100, 101, 100], [80, 105, 99, 116, 117, 114, 101, 46, 97, 100, 100, 101, 100], inn 17 13, Lib.f23_Picture_added, some (0, .meth), [0], true⟩,
  off,
  off,
  off,
  off,
  off,
  off,
  off,
  off,
  off,
  off,
  off,
  off,
  off,
  off,
  off,
  off,
  off,
  off,
  off,
  off,
  off,
  off,
  off,
  off,
  off,
  off,
  off,
  off,
  off,
  off,
  off,
  off,
  off,
  off,
  off,
  off,
  off,
  off,
  off,
  off,
  off,
  off,
  off,
  off,
  off,
  off,
  off,
  off,
  off,
  off,
  off,
  off,
  off,
  off,
  off,
  off,
  off,
  off,
  off,
  off,
  off,
  off,
  off,
  off,
  off,
  off,
  off,
  off,
  off,
  off,
  off,
  off,
  off,
  off,
  off,
  off,
  off,
  off,
  off,
  off,
  off,
  off,
  off,
  off,
  off,
  off,
  off,
  off,
  off,
  off,
  off,
  off,
  off,
  off,
  off,
  off,
  off,
  off,
  off,
  off,
  off,
  off,
  off,
  off,
  off,
  off,
  off,
  off,
  off,
  off,
  off,
  off,
  off,
  off,
  off,
  off,
  off,
  off,
  off,
  off,
  off,
  off,
  off,
  off,
  off,
  off,
  off,
  off,
  off,
  off,
  off,
  off,
  off,
  off,
  off,
  off,
  off,
  off,
  off,
  off,
  off,
  off,
  off,
  off,
  off,
  off,
  off,
  off,
  off,
  off,
  off,
  off,
  off,
  off,
  off,
  off,
  off,
  off,
  off,
  off,
  off,
  off,
  off,
  off,
  off,
  off,
  off,
  ⟨[95, 108, 97, 119, 95, 112, 111, 111, 108], [95, 108, 97, 119, 95, 112, 111, 111, 108], tops 19, Lib.f191_law_pool, none, [0], true⟩,
  ⟨[95, 108, 97, 119, 95, 100, 114, 97, 119], [95, 108, 97, 119, 95, 100, 114, 97, 119], tops 20, Lib.f192_law_draw, none, [0], true⟩,
  ⟨[95, 108, 97, 119, 95, 114, 97, 110, 100, 111, 109, 95, 112, 105, 99, 116, 117, 114, 101], [95, 108, 97, 119, 95, 114, 97, 110, 100, 111, 109, 95, 112, 105, 99, 116, 117, 114, 101], tops 21, Lib.f193_law_random_picture, none, [0], true⟩,
  ⟨[95, 108, 97, 119, 95, 116, 117, 112, 108, 101, 115], [95, 108, 97, 119, 95, 116, 117, 112, 108, 101, 115], tops 23, Lib.f194_law_tuples, none, [0], true⟩,
  off,
  ⟨[95, 108, 97, 119, 95, 97, 102, 116, 101, 114], [95, 108, 97, 119, 95, 97, 102, 116, 101, 114], tops 22, Lib.f196_law_after, none, [0], true⟩,
  off,
  off,
  off,
  off,
  off,
  off,
  off,
  off,
  off,
  off,
  off,
  off,
  off,
  off,
  off,
  off,
  off,
  off,
  off,
  off,
  off,
  off,
  off,
  ⟨[95, 108, 97, 119, 95, 100, 111, 110, 101], [95, 108, 97, 119, 95, 100, 111, 110, 101], tops 24, f_law_done, none, [0], true⟩,
  ⟨[108, 97, 119], [108, 97, 119], tops 25, f_law, none, [0], true⟩]
def C : List Cn := [⟨[80, 105, 99, 116, 117, 114, 101], [[111, 119, 110, 95, 114, 111, 119, 115]]⟩, ⟨[], []⟩, ⟨[], []⟩, ⟨[], []⟩, ⟨[], []⟩, ⟨[], []⟩, ⟨[], []⟩, ⟨[], []⟩, ⟨[], []⟩, ⟨[], []⟩]
def X : List Xn := [⟨[80, 105, 99, 116, 117, 114, 101, 69, 114, 114, 111, 114], [], .Pass ⟨0, 0, 0, 0⟩, 0⟩, ⟨[73, 110, 118, 97, 108, 105, 100, 80, 105, 99, 116, 117, 114, 101], [[118, 97, 108, 117, 101]], inn 5 0, 0⟩, ⟨[79, 117, 116, 79, 102, 82, 97, 110, 103, 101], [[118, 97, 108, 117, 101]], inn 7 0, 3⟩, ⟨[73, 110, 118, 97, 108, 105, 100, 67, 111, 108, 111, 117, 114], [[118, 97, 108, 117, 101]], inn 3 0, 0⟩, ⟨[73, 110, 118, 97, 108, 105, 100, 83, 105, 100, 101], [[118, 97, 108, 117, 101]], inn 4 0, 0⟩, ⟨[], [], .Pass ⟨0, 0, 0, 0⟩, 0⟩, ⟨[76, 97, 115, 116, 76, 105, 110, 101], [[105, 110, 100, 101, 120]], inn 6 0, 1⟩, ⟨[], [], .Pass ⟨0, 0, 0, 0⟩, 0⟩, ⟨[], [], .Pass ⟨0, 0, 0, 0⟩, 0⟩, ⟨[], [], .Pass ⟨0, 0, 0, 0⟩, 0⟩, ⟨[], [], .Pass ⟨0, 0, 0, 0⟩, 0⟩, ⟨[], [], .Pass ⟨0, 0, 0, 0⟩, 0⟩, ⟨[], [], .Pass ⟨0, 0, 0, 0⟩, 0⟩, ⟨[], [], .Pass ⟨0, 0, 0, 0⟩, 0⟩, ⟨[], [], .Pass ⟨0, 0, 0, 0⟩, 0⟩, ⟨[], [], .Pass ⟨0, 0, 0, 0⟩, 0⟩, ⟨[], [], .Pass ⟨0, 0, 0, 0⟩, 0⟩, ⟨[], [], .Pass ⟨0, 0, 0, 0⟩, 0⟩, ⟨[], [], .Pass ⟨0, 0, 0, 0⟩, 0⟩]
def M : Md := ⟨P, C, X, [(0, 3, false), (0, 4, false), (0, 6, false), (1, 3, false), (1, 4, false), (1, 6, false), (2, 3, false), (2, 4, false), (2, 6, false), (3, 3, true), (3, 4, false), (3, 6, false), (4, 3, false), (4, 4, true), (4, 6, false), (6, 3, false), (6, 4, false), (6, 6, true)], gl⟩
def lawIx : Nat := 221
abbrev L : PySem.W.OpenLaw := PySem.Challenge.rw_pictureframes_k03_single_steps
def run (n : Nat) (ns : List Int) := callD (progOf M) (tbOf M) n lawIx [.sh (.frz (ns.map PV.int))]
end PF.K03
set_option Elab.async false
set_option linter.all false
set_option maxRecDepth 100000
set_option maxHeartbeats 4000000
namespace PF.K03
open PySem PF PF.Lib
noncomputable section
theorem g0 (n : Nat) : S0 (gamma M (n + 1)) := ⟨fun v => r_is_integer _ v, rfl⟩
theorem g1 (n : Nat) : S1 (gamma M (n + 2)) := { toS0 := g0 (n + 1), is_count := fun v => r_is_count (g0 n) v, c1 := rfl }
theorem g2 (n : Nat) : S2 (gamma M (n + 3)) := { toS1 := g1 (n + 1), is_line := fun v hz => r_is_line (g1 n) v hz, c2 := rfl }
theorem g3 (n : Nat) : S3 (gamma M (n + 4)) := { toS2 := g2 (n + 1), are_rows := fun v hz hr => r_are_rows (g2 n) v hz hr, c3 := rfl }
theorem g4 (n : Nat) : S4 (gamma M (n + 4)) := { toS3 := g3 n, sides := rfl }
theorem g5 (n : Nat) : S5 (gamma M (n + 5)) := { toS4 := g4 (n + 1), is_side := fun v => r_is_side (g4 n) v, c13 := rfl }
theorem g6 (n : Nat) : S6 (gamma M (n + 5)) := { toS5 := g5 n, init := fun v hz hr ok => r_init (g3 n) v hz hr ok, init_bad := fun v hz hr ok => r_init_bad (g3 n) v hz hr ok, d4 := rfl, c4 := rfl, rows := fun R => r_rows (Γ := gamma M (n + 4)) R, height := fun R => r_height (Γ := gamma M (n + 4)) R, width := fun r R => r_width (Γ := gamma M (n + 4)) r R }
theorem g7 (n : Nat) : S7 (gamma M (n + 6)) := { toS6 := g6 (n + 1), check_side := fun v ok => r_check_side (g5 n) v ok, check_side_bad := fun v ok => r_check_side_bad (g5 n) v ok, c15 := rfl, check_colour := fun v ok => r_check_colour (g5 n) v ok, check_colour_bad := fun v ok => r_check_colour_bad (g5 n) v ok, c14 := rfl }
theorem gD (n : Nat) : SD (gamma M (n + 1)) := ⟨fun a b m h h0 h1 => r_law_draw h h0 h1, rfl⟩
/-! ### the law's own call of a step -/
abbrev E7 : Env := gamma M 7
def wLast : Tx := [108, 97, 115, 116]
def wSide : Tx := [115, 105, 100, 101]
def wCol : Tx := [99, 111, 108, 111, 117, 114]
def doneV (st : StepL) (R : List (List PV)) (w : Nat) : OV := match afterR st R w with
  | some R' => .sh (tupV R')
  | none => .lst [.str wLast, .int 0]
theorem r_law_done (n : Nat) {R : List (List PV)} {w : Nat} (hR : Rect R w) (hm : Roomy R w) (st : StepL) (ok : st.Ok) : runBody (gamma M (n + 7)) f_law_done [.sh (picV R), .sh st.pv] = .ok (doneV st R w) [.emp, .emp] := by
  refine run_eq rfl ?_
  conv => whnf
  cases st with
  | turn =>
    refine wB_t rfl ?_
    conv => whnf
    refine wB_t rfl ?_
    conv => whnf
    refine wC_ok (r_turned (g6 (n + 1)) hR) ?_
    conv => whnf
    refine wB_t rfl ?_
    conv => whnf
    refine wC_ok ((g6 (n + 2)).rows _) ?_
    conv => whnf
    exact ⟨rfl, rfl⟩
  | mir =>
    refine wB_f rfl ?_
    conv => whnf
    refine wB_t rfl ?_
    conv => whnf
    refine wB_t rfl ?_
    conv => whnf
    refine wC_ok (r_mirrored (g6 (n + 1)) hR) ?_
    conv => whnf
    refine wB_t rfl ?_
    conv => whnf
    refine wC_ok ((g6 (n + 2)).rows _) ?_
    conv => whnf
    exact ⟨rfl, rfl⟩
  | cut s =>
    have hs : isSide (.str s) = true := ok
    refine wB_f rfl ?_
    conv => whnf
    refine wB_f rfl ?_
    conv => whnf
    refine wB_t rfl ?_
    conv => whnf
    refine wB_t rfl ?_
    conv => whnf
    show wC _ _ _
    by_cases hl : lastL s R w = true
    · refine wC_exc (r_cut_last (g7 n) hR hs hl) ?_
      conv => whnf
      refine wB_t rfl ?_
      conv => whnf
      refine ⟨?_, rfl⟩
      unfold doneV afterR
      dsimp only
      rw [if_pos hl]
      rfl
    · have hl : lastL s R w = false := by simpa using hl
      refine wC_ok (r_cut (g7 n) hR hs hl) ?_
      conv => whnf
      refine wB_t rfl ?_
      conv => whnf
      refine wC_ok ((g6 (n + 2)).rows _) ?_
      conv => whnf
      refine ⟨?_, rfl⟩
      unfold doneV afterR
      dsimp only
      rw [if_neg (by rw [hl]; exact Bool.false_ne_true)]
      rfl
  | add s c =>
    have hs : isSide (.str s) = true := ok.1
    refine wB_f rfl ?_
    conv => whnf
    refine wB_f rfl ?_
    conv => whnf
    refine wB_f rfl ?_
    conv => whnf
    refine wB_t rfl ?_
    conv => whnf
    refine wC_ok (r_added (g7 n) hR hm hs ok.2) ?_
    conv => whnf
    refine wB_t rfl ?_
    conv => whnf
    refine wC_ok ((g6 (n + 2)).rows _) ?_
    conv => whnf
    exact ⟨rfl, rfl⟩
theorem rpr_ok {v : PV} {t : Tx} (h : reprV v = some t) : (([v] : List PV)[0]?).bind (fun v => (reprV v).map fun t => OV.sh (.str t)) = some (.sh (.str t)) := by
  show (reprV v).map (fun t => OV.sh (.str t)) = _
  rw [h]; rfl
/-- a side that is none -/
theorem r_done_cut_bad (n : Nat) {R : List (List PV)} {v : PV} {t : Tx} (hv : isSide v = false) (hr : reprV v = some t) : runBody (gamma M (n + 7)) f_law_done [.sh (picV R), .sh (.tup [.str wCut, v])] = .ok (.lst [.str wSide, .str t]) [.emp, .emp] := by
  refine run_eq rfl ?_
  conv => whnf
  refine wB_f rfl ?_
  conv => whnf
  refine wB_f rfl ?_
  conv => whnf
  refine wB_t rfl ?_
  conv => whnf
  refine wB_t rfl ?_
  conv => whnf
  refine wC_exc (r_cut_bad (g7 n) hv) ?_
  conv => whnf
  refine wB_t rfl ?_
  conv => whnf
  refine wO_s (rpr_ok hr) ?_
  conv => whnf
  exact ⟨rfl, rfl⟩
theorem r_done_add_side (n : Nat) {R : List (List PV)} {v c : PV} {t : Tx} (hv : isSide v = false) (hr : reprV v = some t) : runBody (gamma M (n + 7)) f_law_done [.sh (picV R), .sh (.tup [.str wAdd, v, c])] = .ok (.lst [.str wSide, .str t]) [.emp, .emp] := by
  refine run_eq rfl ?_
  conv => whnf
  refine wB_f rfl ?_
  conv => whnf
  refine wB_f rfl ?_
  conv => whnf
  refine wB_f rfl ?_
  conv => whnf
  refine wB_t rfl ?_
  conv => whnf
  refine wC_exc (r_added_side (g7 n) hv) ?_
  conv => whnf
  refine wB_t rfl ?_
  conv => whnf
  refine wO_s (rpr_ok hr) ?_
  conv => whnf
  exact ⟨rfl, rfl⟩
theorem r_done_add_col (n : Nat) {R : List (List PV)} {v c : PV} {t : Tx} (hv : isSide v = true) (hc : isCnt c = false) (hr : reprV c = some t) : runBody (gamma M (n + 7)) f_law_done [.sh (picV R), .sh (.tup [.str wAdd, v, c])] = .ok (.lst [.str wCol, .str t]) [.emp, .emp] := by
  refine run_eq rfl ?_
  conv => whnf
  refine wB_f rfl ?_
  conv => whnf
  refine wB_f rfl ?_
  conv => whnf
  refine wB_f rfl ?_
  conv => whnf
  refine wB_t rfl ?_
  conv => whnf
  refine wC_exc (r_added_colour (g7 n) hv hc) ?_
  conv => whnf
  refine wB_t rfl ?_
  conv => whnf
  refine wO_s (rpr_ok hr) ?_
  conv => whnf
  exact ⟨rfl, rfl⟩
end
end PF.K03
set_option Elab.async false
set_option linter.all false
set_option maxRecDepth 100000
set_option maxHeartbeats 4000000
namespace PF.K03
open PySem PF PF.Lib
noncomputable section
mutual
theorem peq_refl : ∀ (n : Nat) (v : PV), eqOk n v = true → peq v v = true
  | _, .non, _ => rfl
  | _, .bl _, _ => beq_self_eq_true _
  | _, .int _, _ => beq_self_eq_true _
  | _, .str _, _ => beq_self_eq_true _
  | 0, .tup _, h => by cases h
  | 0, .lst _, h => by cases h
  | n + 1, .tup xs, h => peqs_refl n xs h
  | n + 1, .lst xs, h => peqs_refl n xs h
  | 0, .frz _, h => by cases h
  | 0, .ins _ _, h => by cases h
  | 0, .dct _ _, h => by cases h
  | _ + 1, .frz _, h => by cases h
  | _ + 1, .ins _ _, h => by cases h
  | _ + 1, .dct _ _, h => by cases h
theorem peqs_refl : ∀ (n : Nat) (vs : List PV), eqOks n vs = true → peqs vs vs = true
  | _, [], _ => rfl
  | n, v :: vs, h => by
    have h : (eqOk n v && eqOks n vs) = true := h
    rw [Bool.and_eq_true] at h
    show (peq v v && peqs vs vs) = true
    rw [peq_refl n v h.1, peqs_refl n vs h.2]; rfl
end
theorem ne_self {v : PV} (h : eqOk 16 v = true) : cmpop .ne v v = some false := by
  show (if (eqOk 16 v && eqOk 16 v) = true then some (!peq v v) else none) = _
  rw [h, if_pos (by rfl), peq_refl 16 v h]; rfl
theorem eqOks_all {n : Nat} : ∀ {vs : List PV}, (∀ v, v ∈ vs → eqOk n v = true) → eqOks n vs = true
  | [], _ => rfl
  | v :: vs, h => by
    show (eqOk n v && eqOks n vs) = true
    rw [h v List.mem_cons_self, eqOks_all fun w hw => h w (List.mem_cons_of_mem _ hw)]; rfl
theorem eqOk_cnt {n : Nat} {v : PV} (h : isCnt v = true) : eqOk n v = true := by
  cases v <;> first | (cases h; done) | (cases n <;> rfl)
theorem eqOk_tupV {R : List (List PV)} (h : ∀ r, r ∈ R → ∀ c, c ∈ r → isCnt c = true) : eqOk 16 (tupV R) = true := by
  show eqOks 15 (R.map .tup) = true
  refine eqOks_all fun v hv => ?_
  obtain ⟨r, hr, rfl⟩ := List.mem_map.mp hv
  show eqOks 14 r = true
  exact eqOks_all fun c hc => eqOk_cnt (h r hr c hc)
theorem rect_mir {R : List (List PV)} {w : Nat} (hR : Rect R w) : Rect (R.map List.reverse) w := by
  refine ⟨fun z => hR.ne (List.map_eq_nil_iff.mp z), hR.w0, fun r hr => ?_, fun r hr c hc => ?_, by rw [List.length_map]; exact hR.big⟩
  · obtain ⟨r0, h0, rfl⟩ := List.mem_map.mp hr
    rw [List.length_reverse]; exact hR.len r0 h0
  · obtain ⟨r0, h0, rfl⟩ := List.mem_map.mp hr
    exact hR.cnt r0 h0 c (List.mem_reverse.mp hc)
theorem rect_turn {R : List (List PV)} {w : Nat} (hR : Rect R w) : Rect (turnR R w) R.length := by
  refine ⟨fun z => ?_, ?_, fun r hr => ?_, fun r hr c hc => ?_, ?_, hR.big.1⟩
  · have := congrArg List.length z
    unfold turnR at this
    rw [List.length_map, List.length_range] at this
    have := hR.w0
    simp at *
    omega
  · have := hR.ne
    cases R with
    | nil => exact absurd rfl this
    | cons a l => simp
  · unfold turnR at hr
    obtain ⟨k, hk, rfl⟩ := List.mem_map.mp hr
    unfold colT
    rw [List.length_map, List.length_reverse]
  · unfold turnR at hr
    obtain ⟨k, hk, rfl⟩ := List.mem_map.mp hr
    unfold colT at hc
    obtain ⟨r0, h0, rfl⟩ := List.mem_map.mp hc
    have h0 := List.mem_reverse.mp h0
    refine hR.cnt r0 h0 _ ?_
    have hk : k < r0.length := by rw [hR.len r0 h0]; exact List.mem_range.mp hk
    rw [List.getD, List.getElem?_eq_getElem hk]
    exact List.getElem_mem hk
  · unfold turnR
    rw [List.length_map, List.length_range]
    exact hR.big.2
theorem rect_after {R : List (List PV)} {w : Nat} (hR : Rect R w) (hm : Roomy R w) (st : StepL) (ok : st.Ok) {R' : List (List PV)} (h : afterR st R w = some R') : ∃ w', Rect R' w' := by
  cases st with
  | turn => cases h; exact ⟨_, rect_turn hR⟩
  | mir => cases h; exact ⟨_, rect_mir hR⟩
  | cut s =>
    unfold afterR at h
    dsimp only at h
    split at h
    · cases h
    · cases h
      rename_i hl
      exact ⟨_, rect_cut hR (by simpa using hl)⟩
  | add s c =>
    cases h
    exact ⟨_, rect_add hR hm ok.2⟩
def PicO (R : List (List PV)) (o : OV) : Prop := o = .sh (picV R) ∨ o = .obj 0 [tupV R]
abbrev EL (n : Nat) : Env := gamma M (n + 8)
abbrev sStep : Sts := .cons (.set (.v 9) (.call 196 (.cons (.var 3) (.cons (.var 7) .nil))))
  (.cons (.set (.v 9) (.ite (.isN false (.var 9)) (.lst (.cons (.str [108, 97, 115, 116]) (.cons (.int 0) .nil))) (.call 194 (.cons (.var 9) .nil))))
  (.cons (.ifs (.or (.cmp .ne (.call 220 (.cons (.var 4) (.cons (.var 7) .nil))) (.var 9)) (.cmp .ne (.prop 5 0 (.var 4)) (.call 194 (.cons (.var 3) .nil))))
  (.cons (.ret (.bl false))
  .nil)
  .nil)
  .nil))
/-- one step of the law's steps -/
theorem step_turn {n : Nat} {ns : List Int} {k : PV} {a b : Int} {R : List (List PV)} {w : Nat} (hR : Rect R w) (hm : Roomy R w) {o4 o5 o6 o7 o8 o9 : OV} (st : StepL) (ok : st.Ok) {K : Fl → S → Prop} {X : PExc → S → Prop}
    (h4 : PicO R o4) (hk : ∀ o, K .nx [.sh (.frz (ns.map .int)), .sh k, pool a b, .sh (lstV R), .sh (picV R), o5, o6, .sh st.pv, o8, o]) :
    (fTurn (EL n) [5] (.v 7) sStep st.pv [.sh (.frz (ns.map .int)), .sh k, pool a b, .sh (lstV R), o4, o5, o6, o7, o8, o9]).run K X := by
  rcases h4 with rfl | rfl
  all_goals
    conv => whnf
    refine wC_ok (r_law_after (Γ := gamma M (n + 7)) hR hm st ok) ?_
    conv => whnf
    cases e : afterR st R w with
    | none =>
      conv => whnf
      refine wB_t rfl ?_
      conv => whnf
      refine wC_ok (r_law_done n hR hm st ok) ?_
      conv => whnf
      have e2 : doneV st R w = .lst [.str wLast, .int 0] := by unfold doneV; rw [e]
      rw [e2]
      conv => whnf
      refine wB_f rfl ?_
      conv => whnf
      refine wB_t rfl ?_
      conv => whnf
      refine wC_ok ((g6 (n + 3)).rows R) ?_
      conv => whnf
      refine wC_ok (r_law_tuples (Γ := gamma M (n + 7)) (R := R) hR.big.1) ?_
      conv => whnf
      refine wO_s (ne_self (eqOk_tupV hR.cnt)) ?_
      conv => whnf
      refine wB_f rfl ?_
      conv => whnf
      exact hk _
    | some R' =>
      obtain ⟨w', hR'⟩ := rect_after hR hm st ok e
      conv => whnf
      refine wB_f rfl ?_
      conv => whnf
      refine wC_ok (r_law_tuples (Γ := gamma M (n + 7)) (R := R') hR'.big.1) ?_
      conv => whnf
      refine wC_ok (r_law_done n hR hm st ok) ?_
      conv => whnf
      have e2 : doneV st R w = .sh (tupV R') := by unfold doneV; rw [e]
      rw [e2]
      conv => whnf
      refine wO_s (ne_self (eqOk_tupV hR'.cnt)) ?_
      conv => whnf
      refine wB_f rfl ?_
      conv => whnf
      refine wB_t rfl ?_
      conv => whnf
      refine wC_ok ((g6 (n + 3)).rows R) ?_
      conv => whnf
      refine wC_ok (r_law_tuples (Γ := gamma M (n + 7)) (R := R) hR.big.1) ?_
      conv => whnf
      refine wO_s (ne_self (eqOk_tupV hR.cnt)) ?_
      conv => whnf
      refine wB_f rfl ?_
      conv => whnf
      exact hk _
/-- a thing that is no side, and what is told of it -/
abbrev sBad : Sts := .cons (.ifs (.cmp .ne (.call 220 (.cons (.var 4) (.cons (.tup (.cons (.str [99, 117, 116]) (.cons (.var 8) .nil))) .nil))) (.lst (.cons (.str [115, 105, 100, 101]) (.cons (.bi .repr (.cons (.var 8) .nil)) .nil))))
  (.cons (.ret (.bl false))
  .nil)
  .nil)
  (.cons (.ifs (.cmp .ne (.call 220 (.cons (.var 4) (.cons (.tup (.cons (.str [97, 100, 100]) (.cons (.var 8) (.cons .non .nil)))) .nil))) (.lst (.cons (.str [115, 105, 100, 101]) (.cons (.bi .repr (.cons (.var 8) .nil)) .nil))))
  (.cons (.ret (.bl false))
  .nil)
  .nil)
  .nil)
theorem eqOk_two {s t : Tx} (h1 : strOkT s = true) (h2 : strOkT t = true) : eqOk 16 (.lst [.str s, .str t]) = true := by
  show (strOkT s && (strOkT t && true)) = true
  rw [h1, h2]; rfl
theorem bi_repr {v : PV} {t : Tx} (h : reprV v = some t) : bi .repr [v] = some (.sh (.str t)) := by
  show (reprV v).map (fun t => OV.sh (.str t)) = _
  rw [h]; rfl
theorem bad_turn {n : Nat} {ns : List Int} {k v : PV} {a b : Int} {R : List (List PV)} {w : Nat} (hR : Rect R w) {o5 o6 o7 o8 o9 : OV} {t : Tx} (hv : isSide v = false) (hr : reprV v = some t) (ht : strOkT t = true) {K : Fl → S → Prop} {X : PExc → S → Prop}
    (hk : K .nx [.sh (.frz (ns.map .int)), .sh k, pool a b, .sh (lstV R), .sh (picV R), o5, o6, o7, .sh v, o9]) :
    (fTurn (EL n) [] (.v 8) sBad v [.sh (.frz (ns.map .int)), .sh k, pool a b, .sh (lstV R), .sh (picV R), o5, o6, o7, o8, o9]).run K X := by
  conv => whnf
  refine wC_ok (r_done_cut_bad n (R := R) hv hr) ?_
  conv => whnf
  refine wO_s (bi_repr hr) ?_
  conv => whnf
  refine wO_s (ne_self (eqOk_two (by rfl) ht)) ?_
  conv => whnf
  refine wB_f rfl ?_
  conv => whnf
  refine wC_ok (r_done_add_side n (R := R) hv hr) ?_
  conv => whnf
  refine wO_s (bi_repr hr) ?_
  conv => whnf
  refine wO_s (ne_self (eqOk_two (by rfl) ht)) ?_
  conv => whnf
  refine wB_f rfl ?_
  conv => whnf
  exact hk
abbrev sBadC : Sts := .cons (.ifs (.cmp .ne (.call 220 (.cons (.var 4) (.cons (.tup (.cons (.str [97, 100, 100]) (.cons (.str [108, 101, 102, 116]) (.cons (.var 8) .nil)))) .nil))) (.lst (.cons (.str [99, 111, 108, 111, 117, 114]) (.cons (.bi .repr (.cons (.var 8) .nil)) .nil))))
  (.cons (.ret (.bl false))
  .nil)
  .nil)
  .nil
theorem badC_turn {n : Nat} {ns : List Int} {k v : PV} {a b : Int} {R : List (List PV)} {w : Nat} (hR : Rect R w) {o5 o6 o7 o8 o9 : OV} {t : Tx} (hv : isCnt v = false) (hr : reprV v = some t) (ht : strOkT t = true) {K : Fl → S → Prop} {X : PExc → S → Prop}
    (hk : K .nx [.sh (.frz (ns.map .int)), .sh k, pool a b, .sh (lstV R), .sh (picV R), o5, o6, o7, .sh v, o9]) :
    (fTurn (EL n) [] (.v 8) sBadC v [.sh (.frz (ns.map .int)), .sh k, pool a b, .sh (lstV R), .sh (picV R), o5, o6, o7, o8, o9]).run K X := by
  conv => whnf
  refine wC_ok (r_done_add_col n (R := R) (v := .str Lib.left) (by rfl) hv hr) ?_
  conv => whnf
  refine wO_s (bi_repr hr) ?_
  conv => whnf
  refine wO_s (ne_self (eqOk_two (by rfl) ht)) ?_
  conv => whnf
  refine wB_f rfl ?_
  conv => whnf
  exact hk
end
end PF.K03
set_option Elab.async false
set_option linter.all false
set_option maxRecDepth 100000
set_option maxHeartbeats 4000000
namespace PF.K03
open PySem PF PF.Lib
noncomputable section
def Inv (ns : List Int) (s : S) : Prop := ∃ o1 o2 o3 o4 o5 o6 o7 o8 o9, s = [.sh (.frz (ns.map .int)), o1, o2, o3, o4, o5, o6, o7, o8, o9]
def lawBody : Sts := match f_law.body with
  | .cons (.for_ _ _ b) _ => b
  | _ => .nil
theorem roomy5 {R : List (List PV)} {w : Nat} (h1 : (R.length : Int) ≤ 5) (h2 : (w : Int) ≤ 5) : Roomy R w := ⟨by omega, by omega⟩
abbrev bads : List PV := [.non, .str [117, 112], .str [84, 111, 112], .int 0, .lst [], .tup [.str [116, 111, 112]], .bl true]
theorem bads_ok (v : PV) (h : v ∈ bads) : isSide v = false ∧ ∃ t, reprV v = some t ∧ strOkT t = true := by
  simp only [bads, List.mem_cons, List.not_mem_nil, or_false] at h
  rcases h with rfl | rfl | rfl | rfl | rfl | rfl | rfl
  · exact ⟨rfl, [78, 111, 110, 101], by kernel_rfl, by kernel_rfl⟩
  · exact ⟨rfl, [39, 117, 112, 39], by kernel_rfl, by kernel_rfl⟩
  · exact ⟨rfl, [39, 84, 111, 112, 39], by kernel_rfl, by kernel_rfl⟩
  · exact ⟨rfl, [48], by kernel_rfl, by kernel_rfl⟩
  · exact ⟨rfl, [91, 93], by kernel_rfl, by kernel_rfl⟩
  · exact ⟨rfl, [40, 39, 116, 111, 112, 39, 44, 41], by kernel_rfl, by kernel_rfl⟩
  · exact ⟨rfl, [84, 114, 117, 101], by kernel_rfl, by kernel_rfl⟩
abbrev badC : List PV := [.non, .int (-1), .bl true, .str [49], .tup [.int 1]]
theorem badC_ok (v : PV) (h : v ∈ badC) : isCnt v = false ∧ ∃ t, reprV v = some t ∧ strOkT t = true := by
  simp only [badC, List.mem_cons, List.not_mem_nil, or_false] at h
  rcases h with rfl | rfl | rfl | rfl | rfl
  · exact ⟨rfl, [78, 111, 110, 101], by kernel_rfl, by kernel_rfl⟩
  · exact ⟨rfl, [45, 49], by kernel_rfl, by kernel_rfl⟩
  · exact ⟨rfl, [84, 114, 117, 101], by kernel_rfl, by kernel_rfl⟩
  · exact ⟨rfl, [39, 49, 39], by kernel_rfl, by kernel_rfl⟩
  · exact ⟨rfl, [40, 49, 44, 41], by kernel_rfl, by kernel_rfl⟩
theorem law_turn {n : Nat} {ns : List Int} {k : Nat} (hk : k < 1000) {s : S} (hs : Inv ns s) :
    (fTurn (EL n) [] (.v 1) lawBody (.int (k : Nat)) s).run (fun f s2 => match f with
      | .nx => Inv ns s2
      | .ct => Inv ns s2
      | .bk => False
      | .rt o => False) fun _ _ => False := by
  obtain ⟨o1, o2, o3, o4, o5, o6, o7, o8, o9, rfl⟩ := hs
  conv => whnf
  refine wC_ex (r_law_pool (Γ := gamma M (n + 7)) ns k hk) fun o outs q => ?_
  obtain ⟨a, b, ok, rfl, rfl⟩ := q
  conv => whnf
  refine wC_ex (r_law_random_picture (gD (n + 6)) ok (m := 5) (c := 9) (by decide) (by decide) (by decide) (by decide)) fun o outs q => ?_
  obtain ⟨R, w, a, b, ok, hR, h1, h2, rfl, rfl⟩ := q
  conv => whnf
  refine wB_t rfl ?_
  conv => whnf
  refine wC_ok (made (g6 (n + 3)) (rows_lst R) hR) ?_
  conv => whnf
  refine for_cons ?_
  conv => whnf
  refine wC_ex (r_law_draw (Γ := gamma M (n + 7)) ok (by decide) (by decide)) fun o outs q => ?_
  obtain ⟨r1, a, b, ok, r1a, r1b, rfl, rfl⟩ := q
  conv => whnf
  refine for_cons ?_
  conv => whnf
  refine wC_ex (r_law_draw (Γ := gamma M (n + 7)) ok (by decide) (by decide)) fun o outs q => ?_
  obtain ⟨r2, a, b, ok, r2a, r2b, rfl, rfl⟩ := q
  conv => whnf
  refine for_cons ?_
  conv => whnf
  refine wC_ex (r_law_draw (Γ := gamma M (n + 7)) ok (by decide) (by decide)) fun o outs q => ?_
  obtain ⟨r3, a, b, ok, r3a, r3b, rfl, rfl⟩ := q
  conv => whnf
  refine for_cons ?_
  conv => whnf
  refine wC_ex (r_law_draw (Γ := gamma M (n + 7)) ok (by decide) (by decide)) fun o outs q => ?_
  obtain ⟨r4, a, b, ok, r4a, r4b, rfl, rfl⟩ := q
  conv => whnf
  refine for_nil ?_
  conv => whnf
  refine for_inv (fun xs s => ∃ sts : List StepL, (∀ st, st ∈ sts → st.Ok) ∧ xs = sts.map StepL.pv ∧ ∃ o4 o5 o6 o7 o8 o9, PicO R o4 ∧ (xs = [] → o4 = .sh (picV R)) ∧ s = [.sh (.frz (ns.map .int)), .sh (.int (k : Nat)), pool a b, .sh (lstV R), o4, o5, o6, o7, o8, o9]) _ _ ?_ ?_ ?_
  · refine ⟨[.turn, .mir, .cut top, .add top (.int r1), .cut Lib.right, .add Lib.right (.int r2), .cut bottom, .add bottom (.int r3), .cut Lib.left, .add Lib.left (.int r4)], fun st hst => ?_, rfl, _, _, _, _, _, _, .inr rfl, fun z => by simp at z, rfl⟩
    simp only [List.mem_cons, List.not_mem_nil, or_false] at hst
    rcases hst with rfl | rfl | rfl | rfl | rfl | rfl | rfl | rfl | rfl | rfl
    · trivial
    · trivial
    · show isSide _ = true
      rfl
    · exact ⟨rfl, decide_eq_true r1a⟩
    · show isSide _ = true
      rfl
    · exact ⟨rfl, decide_eq_true r2a⟩
    · show isSide _ = true
      rfl
    · exact ⟨rfl, decide_eq_true r3a⟩
    · show isSide _ = true
      rfl
    · exact ⟨rfl, decide_eq_true r4a⟩
  · intro x r s hI
    obtain ⟨sts, hok, ex, o4, o5, o6, o7, o8, o9, h4, _, rfl⟩ := hI
    cases sts with
    | nil => cases ex
    | cons st sts =>
      obtain ⟨rfl, rfl⟩ := List.cons.inj ex
      exact step_turn hR (roomy5 h1 h2) st (hok _ List.mem_cons_self) h4 fun o => ⟨sts, fun s hs => hok s (List.mem_cons_of_mem _ hs), rfl, _, _, _, _, _, _, .inl rfl, fun _ => rfl, rfl⟩
  · intro s hI
    obtain ⟨sts, _, ex, o4, o5, o6, o7, o8, o9, _, h4, rfl⟩ := hI
    rw [h4 rfl]
    conv => whnf
    refine for_inv (fun xs s => (∀ v, v ∈ xs → v ∈ bads) ∧ ∃ o5 o6 o7 o8 o9, s = [.sh (.frz (ns.map .int)), .sh (.int (k : Nat)), pool a b, .sh (lstV R), .sh (picV R), o5, o6, o7, o8, o9]) _ _ ?_ ?_ ?_
    · exact ⟨fun v hv => hv, _, _, _, _, _, rfl⟩
    · intro x r s hI
      obtain ⟨hm, o5, o6, o7, o8, o9, rfl⟩ := hI
      obtain ⟨b1, t, b2, b3⟩ := bads_ok x (hm x List.mem_cons_self)
      exact bad_turn hR b1 b2 b3 ⟨fun v hv => hm v (List.mem_cons_of_mem _ hv), _, _, _, _, _, rfl⟩
    · intro s hI
      obtain ⟨_, o5, o6, o7, o8, o9, rfl⟩ := hI
      conv => whnf
      refine for_inv (fun xs s => (∀ v, v ∈ xs → v ∈ badC) ∧ ∃ o5 o6 o7 o8 o9, s = [.sh (.frz (ns.map .int)), .sh (.int (k : Nat)), pool a b, .sh (lstV R), .sh (picV R), o5, o6, o7, o8, o9]) _ _ ?_ ?_ ?_
      · exact ⟨fun v hv => hv, _, _, _, _, _, rfl⟩
      · intro x r s hI
        obtain ⟨hm, o5, o6, o7, o8, o9, rfl⟩ := hI
        obtain ⟨b1, t, b2, b3⟩ := badC_ok x (hm x List.mem_cons_self)
        exact badC_turn hR b1 b2 b3 ⟨fun v hv => hm v (List.mem_cons_of_mem _ hv), _, _, _, _, _, rfl⟩
      · intro s hI
        obtain ⟨_, o5, o6, o7, o8, o9, rfl⟩ := hI
        conv => whnf
        exact ⟨_, _, _, _, _, _, _, _, _, rfl⟩
theorem turns_eq (ns : List Int) : (if (if (8 : Int) < ((ns.map PV.int).length : Nat) then (8 : Int) else ((ns.map PV.int).length : Nat)) > 1 then (if (8 : Int) < ((ns.map PV.int).length : Nat) then (8 : Int) else ((ns.map PV.int).length : Nat)) else 1) = ((max 1 (min ns.length 8) : Nat) : Int) := by
  rw [List.length_map]
  split <;> split <;> omega
theorem the_law (ns : List Int) (h : ns.length ≤ 63) (hb : ∀ z, z ∈ ns → PySem.Builtin.Int.intBits z ≤ 1048576) : ∃ outs, callD (progOf M) (tbOf M) 12 lawIx [.sh (.frz (ns.map PV.int))] = .ok (.sh (.bl true)) outs := by
  have key : ∃ o outs, runBody (EL 3) f_law [.sh (.frz (ns.map PV.int))] = .ok o outs ∧ o = .sh (.bl true) := by
    refine run_ex rfl ?_
    conv => whnf
    rw [turns_eq]
    have hN : max 1 (min ns.length 8) ≤ 8 := by omega
    refine wB_t (rng_ok (by unfold big; omega)) ?_
    conv => whnf
    refine for_inv (fun xs s => (∀ v, v ∈ xs → ∃ k : Nat, k < 1000 ∧ v = .int (k : Nat)) ∧ Inv ns s) _ _ ?_ ?_ ?_
    · refine ⟨fun v hv => ?_, _, _, _, _, _, _, _, _, _, rfl⟩
      obtain ⟨k, hk, e⟩ := mem_rng hv
      exact ⟨k, by omega, e⟩
    · intro x r s hI
      obtain ⟨hx, hs⟩ := hI
      obtain ⟨k, hk, rfl⟩ := hx x List.mem_cons_self
      have hr : ∀ v, v ∈ r → ∃ k : Nat, k < 1000 ∧ v = .int (k : Nat) := fun v hv => hx v (List.mem_cons_of_mem _ hv)
      refine (snd_bind snd_lift fun _ s2 => sexs _ _ s2 : Snd (fTurn (EL 3) [] (.v 1) lawBody (.int (k : Nat)) s) _).mono (law_turn hk hs) (fun f s2 q => ?_) fun _ _ q => q.elim
      cases f with
      | nx => exact ⟨hr, q⟩
      | ct => exact ⟨hr, q⟩
      | bk => exact q.elim
      | rt o => exact q.elim
    · intro s hI
      obtain ⟨_, o1, o2, o3, o4, o5, o6, o7, o8, o9, rfl⟩ := hI
      conv => whnf
      try exact rfl
  obtain ⟨o, outs, e, rfl⟩ := key
  exact ⟨outs, e⟩
end
end PF.K03
set_option Elab.async false
set_option linter.all false
set_option maxRecDepth 100000
set_option maxHeartbeats 4000000
noncomputable section
namespace PF.K03
open PySem PySem.Spec PyProof.Rows PF
theorem bind_0 : BindOk (P.getD 0 off) := by
  refine ⟨fun _ x qual body scope kV doc pm an cdv ct us hl => ?_, fun h => absurd rfl h⟩
  rcases us with _ | ⟨u0, _ | ⟨u1, us⟩⟩ <;> first | (cases hl; done) | rfl
theorem bind_1 : BindOk (P.getD 1 off) := by
  refine ⟨fun _ x qual body scope kV doc pm an cdv ct us hl => ?_, fun h => absurd rfl h⟩
  rcases us with _ | ⟨u0, _ | ⟨u1, us⟩⟩ <;> first | (cases hl; done) | rfl
theorem bind_2 : BindOk (P.getD 2 off) := by
  refine ⟨fun _ x qual body scope kV doc pm an cdv ct us hl => ?_, fun h => absurd rfl h⟩
  rcases us with _ | ⟨u0, _ | ⟨u1, us⟩⟩ <;> first | (cases hl; done) | rfl
theorem bind_3 : BindOk (P.getD 3 off) := by
  refine ⟨fun _ x qual body scope kV doc pm an cdv ct us hl => ?_, fun h => absurd rfl h⟩
  rcases us with _ | ⟨u0, _ | ⟨u1, us⟩⟩ <;> first | (cases hl; done) | rfl
theorem bind_4 : BindOk (P.getD 4 off) := by
  refine ⟨fun _ x qual body scope kV doc pm an cdv ct us hl => ?_, fun h => absurd rfl h⟩
  rcases us with _ | ⟨u0, _ | ⟨u1, _ | ⟨u2, us⟩⟩⟩ <;> first | (cases hl; done) | rfl
theorem bind_5 : BindOk (P.getD 5 off) := by
  refine ⟨fun _ x qual body scope kV doc pm an cdv ct us hl => ?_, fun h => absurd rfl h⟩
  rcases us with _ | ⟨u0, _ | ⟨u1, us⟩⟩ <;> first | (cases hl; done) | rfl
theorem bind_6 : BindOk (P.getD 6 off) := by
  refine ⟨fun _ x qual body scope kV doc pm an cdv ct us hl => ?_, fun h => absurd rfl h⟩
  rcases us with _ | ⟨u0, _ | ⟨u1, us⟩⟩ <;> first | (cases hl; done) | rfl
theorem bind_7 : BindOk (P.getD 7 off) := by
  refine ⟨fun _ x qual body scope kV doc pm an cdv ct us hl => ?_, fun h => absurd rfl h⟩
  rcases us with _ | ⟨u0, _ | ⟨u1, us⟩⟩ <;> first | (cases hl; done) | rfl
theorem bind_13 : BindOk (P.getD 13 off) := by
  refine ⟨fun _ x qual body scope kV doc pm an cdv ct us hl => ?_, fun h => absurd rfl h⟩
  rcases us with _ | ⟨u0, _ | ⟨u1, us⟩⟩ <;> first | (cases hl; done) | rfl
theorem bind_14 : BindOk (P.getD 14 off) := by
  refine ⟨fun _ x qual body scope kV doc pm an cdv ct us hl => ?_, fun h => absurd rfl h⟩
  rcases us with _ | ⟨u0, _ | ⟨u1, us⟩⟩ <;> first | (cases hl; done) | rfl
theorem bind_15 : BindOk (P.getD 15 off) := by
  refine ⟨fun _ x qual body scope kV doc pm an cdv ct us hl => ?_, fun h => absurd rfl h⟩
  rcases us with _ | ⟨u0, _ | ⟨u1, us⟩⟩ <;> first | (cases hl; done) | rfl
theorem bind_20 : BindOk (P.getD 20 off) := by
  refine ⟨fun _ x qual body scope kV doc pm an cdv ct us hl => ?_, fun h => absurd rfl h⟩
  rcases us with _ | ⟨u0, _ | ⟨u1, us⟩⟩ <;> first | (cases hl; done) | rfl
theorem bind_21 : BindOk (P.getD 21 off) := by
  refine ⟨fun _ x qual body scope kV doc pm an cdv ct us hl => ?_, fun h => absurd rfl h⟩
  rcases us with _ | ⟨u0, _ | ⟨u1, us⟩⟩ <;> first | (cases hl; done) | rfl
theorem bind_22 : BindOk (P.getD 22 off) := by
  refine ⟨fun _ x qual body scope kV doc pm an cdv ct us hl => ?_, fun h => absurd rfl h⟩
  rcases us with _ | ⟨u0, _ | ⟨u1, _ | ⟨u2, us⟩⟩⟩ <;> first | (cases hl; done) | rfl
theorem bind_23 : BindOk (P.getD 23 off) := by
  refine ⟨fun _ x qual body scope kV doc pm an cdv ct us hl => ?_, fun h => absurd rfl h⟩
  rcases us with _ | ⟨u0, _ | ⟨u1, _ | ⟨u2, _ | ⟨u3, us⟩⟩⟩⟩ <;> first | (cases hl; done) | rfl
theorem bind_191 : BindOk (P.getD 191 off) := by
  refine ⟨fun _ x qual body scope kV doc pm an cdv ct us hl => ?_, fun h => absurd rfl h⟩
  rcases us with _ | ⟨u0, _ | ⟨u1, _ | ⟨u2, us⟩⟩⟩ <;> first | (cases hl; done) | rfl
theorem bind_192 : BindOk (P.getD 192 off) := by
  refine ⟨fun _ x qual body scope kV doc pm an cdv ct us hl => ?_, fun h => absurd rfl h⟩
  rcases us with _ | ⟨u0, _ | ⟨u1, _ | ⟨u2, us⟩⟩⟩ <;> first | (cases hl; done) | rfl
theorem bind_193 : BindOk (P.getD 193 off) := by
  refine ⟨fun _ x qual body scope kV doc pm an cdv ct us hl => ?_, fun h => absurd rfl h⟩
  rcases us with _ | ⟨u0, _ | ⟨u1, _ | ⟨u2, _ | ⟨u3, us⟩⟩⟩⟩ <;> first | (cases hl; done) | rfl
theorem bind_194 : BindOk (P.getD 194 off) := by
  refine ⟨fun _ x qual body scope kV doc pm an cdv ct us hl => ?_, fun h => absurd rfl h⟩
  rcases us with _ | ⟨u0, _ | ⟨u1, us⟩⟩ <;> first | (cases hl; done) | rfl
theorem bind_196 : BindOk (P.getD 196 off) := by
  refine ⟨fun _ x qual body scope kV doc pm an cdv ct us hl => ?_, fun h => absurd rfl h⟩
  rcases us with _ | ⟨u0, _ | ⟨u1, _ | ⟨u2, us⟩⟩⟩ <;> first | (cases hl; done) | rfl
theorem bind_220 : BindOk (P.getD 220 off) := by
  refine ⟨fun _ x qual body scope kV doc pm an cdv ct us hl => ?_, fun h => absurd rfl h⟩
  rcases us with _ | ⟨u0, _ | ⟨u1, _ | ⟨u2, us⟩⟩⟩ <;> first | (cases hl; done) | rfl
theorem bind_221 : BindOk (P.getD 221 off) := by
  refine ⟨fun _ x qual body scope kV doc pm an cdv ct us hl => ?_, fun h => absurd rfl h⟩
  rcases us with _ | ⟨u0, _ | ⟨u1, us⟩⟩ <;> first | (cases hl; done) | rfl
theorem bind_all_ (i : Nat) (d : Dn) (h : P[i]? = some d) (on : d.on = true) : BindOk d := by
  have key : ∀ i, i < 222 → (P.getD i off).on = true → BindOk (P.getD i off) := by
    intro i hi ho
    have hm : i ∈ [0, 1, 2, 3, 4, 5, 6, 7, 13, 14, 15, 20, 21, 22, 23, 191, 192, 193, 194, 196, 220, 221] := by
      have z : ∀ i, i < 222 → (P.getD i off).on = true → i ∈ [0, 1, 2, 3, 4, 5, 6, 7, 13, 14, 15, 20, 21, 22, 23, 191, 192, 193, 194, 196, 220, 221] := by decide +kernel
      exact z i hi ho
    simp only [List.mem_cons, List.not_mem_nil, or_false] at hm
    rcases hm with rfl | rfl | rfl | rfl | rfl | rfl | rfl | rfl | rfl | rfl | rfl | rfl | rfl | rfl | rfl | rfl | rfl | rfl | rfl | rfl | rfl | rfl
    · exact bind_0
    · exact bind_1
    · exact bind_2
    · exact bind_3
    · exact bind_4
    · exact bind_5
    · exact bind_6
    · exact bind_7
    · exact bind_13
    · exact bind_14
    · exact bind_15
    · exact bind_20
    · exact bind_21
    · exact bind_22
    · exact bind_23
    · exact bind_191
    · exact bind_192
    · exact bind_193
    · exact bind_194
    · exact bind_196
    · exact bind_220
    · exact bind_221
  obtain ⟨hlt, e⟩ := List.getElem?_eq_some_iff.mp h
  have e2 : P.getD i off = d := by
    rw [List.getD, h]; rfl
  have z := key i hlt (by rw [e2]; exact on)
  rw [e2] at z; exact z
theorem xb_1 : BindX (X.getD 1 ⟨[], [], .Pass ⟨0, 0, 0, 0⟩, 0⟩) := by
  intro name qual body scope kV doc pm an cdv ct cc us hl
  rcases us with _ | ⟨u0, _ | ⟨u1, _ | ⟨u2, us⟩⟩⟩ <;> first | (cases hl; done) | kernel_rfl | (rw [show ("self" : Str) = mkS [115, 101, 108, 102] by decide +kernel]; rfl)
theorem xb_2 : BindX (X.getD 2 ⟨[], [], .Pass ⟨0, 0, 0, 0⟩, 0⟩) := by
  intro name qual body scope kV doc pm an cdv ct cc us hl
  rcases us with _ | ⟨u0, _ | ⟨u1, _ | ⟨u2, us⟩⟩⟩ <;> first | (cases hl; done) | kernel_rfl | (rw [show ("self" : Str) = mkS [115, 101, 108, 102] by decide +kernel]; rfl)
theorem xb_3 : BindX (X.getD 3 ⟨[], [], .Pass ⟨0, 0, 0, 0⟩, 0⟩) := by
  intro name qual body scope kV doc pm an cdv ct cc us hl
  rcases us with _ | ⟨u0, _ | ⟨u1, _ | ⟨u2, us⟩⟩⟩ <;> first | (cases hl; done) | kernel_rfl | (rw [show ("self" : Str) = mkS [115, 101, 108, 102] by decide +kernel]; rfl)
theorem xb_4 : BindX (X.getD 4 ⟨[], [], .Pass ⟨0, 0, 0, 0⟩, 0⟩) := by
  intro name qual body scope kV doc pm an cdv ct cc us hl
  rcases us with _ | ⟨u0, _ | ⟨u1, _ | ⟨u2, us⟩⟩⟩ <;> first | (cases hl; done) | kernel_rfl | (rw [show ("self" : Str) = mkS [115, 101, 108, 102] by decide +kernel]; rfl)
theorem xb_6 : BindX (X.getD 6 ⟨[], [], .Pass ⟨0, 0, 0, 0⟩, 0⟩) := by
  intro name qual body scope kV doc pm an cdv ct cc us hl
  rcases us with _ | ⟨u0, _ | ⟨u1, _ | ⟨u2, us⟩⟩⟩ <;> first | (cases hl; done) | kernel_rfl | (rw [show ("self" : Str) = mkS [115, 101, 108, 102] by decide +kernel]; rfl)
theorem x_ok (c : Nat) (x : Xn) (h : X[c]? = some x) (ne : x.fs ≠ []) : xTxtB L.prog x = true ∧ BindX x := by
  have key : ∀ i, i < 19 → (X.getD i ⟨[], [], .Pass ⟨0, 0, 0, 0⟩, 0⟩).fs.isEmpty = false → xTxtB L.prog (X.getD i ⟨[], [], .Pass ⟨0, 0, 0, 0⟩, 0⟩) = true ∧ BindX (X.getD i ⟨[], [], .Pass ⟨0, 0, 0, 0⟩, 0⟩) := by
    intro i hi ho
    have hm : i ∈ ([1, 2, 3, 4, 6] : List Nat) := by
      have z : ∀ i, i < 19 → (X.getD i ⟨[], [], .Pass ⟨0, 0, 0, 0⟩, 0⟩).fs.isEmpty = false → i ∈ ([1, 2, 3, 4, 6] : List Nat) := by decide +kernel
      exact z i hi ho
    simp only [List.mem_cons, List.not_mem_nil, or_false] at hm
    rcases hm with rfl | rfl | rfl | rfl | rfl
    · exact ⟨by kernel_rfl, xb_1⟩
    · exact ⟨by kernel_rfl, xb_2⟩
    · exact ⟨by kernel_rfl, xb_3⟩
    · exact ⟨by kernel_rfl, xb_4⟩
    · exact ⟨by kernel_rfl, xb_6⟩
  obtain ⟨hlt, e⟩ := List.getElem?_eq_some_iff.mp h
  have e2 : X.getD c ⟨[], [], .Pass ⟨0, 0, 0, 0⟩, 0⟩ = x := by
    rw [List.getD, h]; rfl
  have z := key c hlt (by
    rw [e2]
    cases hh : x.fs with
    | nil => exact absurd hh ne
    | cons a l => rfl)
  rw [e2] at z; exact z
theorem chk_all : P.all (fun d => !d.on || defOk (gnOf M) d) = true := by kernel_rfl
theorem P_ok (i : Nat) (d : Dn) (h : M.P[i]? = some d) (on : d.on = true) : defOk (gnOf M) d = true ∧ BindOk d := by
  refine ⟨?_, bind_all_ i d h on⟩
  have z := List.all_eq_true.mp chk_all d (List.mem_of_getElem? h)
  rw [on] at z
  simpa using z
abbrev R : PySem.W.OpenRow := PySem.W.OpenLaw.row L
abbrev hk : PySem.W.Hook := hookM 6 M L.prog
def ob (s : PySem.W.SharedT) : AlM := obsMG 6 M L.prog (HandSHeadRun.getT s)
theorem ob_eq (s : PySem.W.SharedT) : ob s = hk.obs s.abs := obsMG_eq (HandSHeadRun.getT_eq s)
theorem run_ (w : World) : HandSHeadRun.RunEq R (PySem.W.view R.prog [25]) hk ob 4000 ["_wall", "PictureError", "InvalidColour", "InvalidSide", "InvalidPicture", "LastLine", "OutOfRange", "SIDES", "is_integer", "is_count", "is_side", "check_colour", "check_side", "is_line", "are_rows", "Picture", "_law_pool", "_law_draw", "_law_random_picture", "_law_after", "_law_tuples", "_law_done"] w := by
  intro os
  kernel_rfl
abbrev dl : Dn := P.getD lawIx off
end PF.K03
end
open PySem PySem.W PySem.Calls PyProof.Rows
theorem PySem.Challenge.cw_pictureframes_k03_single_steps_holds : PySem.Challenge.rw_pictureframes_k03_single_steps.Holds := by
  w_on; o_law
  refine HandSHeadRun.head_any (r := OpenLaw.row PySem.Challenge.rw_pictureframes_k03_single_steps) (q := view (OpenLaw.row PySem.Challenge.rw_pictureframes_k03_single_steps).prog [25]) (H := PF.K03.hk) (ob := PF.K03.ob) (M := 4000)
    (loose := ["_wall", "PictureError", "InvalidColour", "InvalidSide", "InvalidPicture", "LastLine", "OutOfRange", "SIDES", "is_integer", "is_count", "is_side", "check_colour", "check_side", "is_line", "are_rows", "Picture", "_law_pool", "_law_draw", "_law_random_picture", "_law_after", "_law_tuples", "_law_done"])
    (d := HandSHeadRun.topDef (OpenLaw.row PySem.Challenge.rw_pictureframes_k03_single_steps).prog 25) (kwd := []) PF.K03.ob_eq
    (by kernel_rfl) (fun s => by kernel_rfl) PF.K03.run_ (by kernel_rfl) (by kernel_rfl) (by kernel_rfl) (by rfl) (by first | assumption | decide +kernel) (by decide +kernel) ⟨rfl, rfl, rfl, rfl, rfl, by decide +kernel⟩ ?hw ?hc
  case hw => w_witness2
  case hc =>
    refine PF.walkG (l := PySem.Challenge.rw_pictureframes_k03_single_steps) (k := 3 * 12) (x := "script") rfl (by kernel_rfl) ⟨rfl, by decide, by decide⟩ ?F
    intro w mg fa h Y G hmg0
    obtain ⟨K, KX, c⟩ := Y
    have e : (HandSHeadRun.topDef (OpenLaw.row PySem.Challenge.rw_pictureframes_k03_single_steps).prog 25).name = PF.mkS PF.K03.dl.nm := by kernel_rfl
    have hmg := e ▸ hmg0
    exact ⟨K, KX, PF.lawG_of (M := PF.K03.M) (l := PySem.Challenge.rw_pictureframes_k03_single_steps) (li := PF.K03.lawIx) (n := 12) KX G c PF.K03.x_ok PF.K03.P_ok (d := PF.K03.dl) rfl rfl rfl rfl rfl rfl hmg PF.K03.the_law⟩
