import PyProof.Rows.All
import Wide.All
import OpenK.AllK
import Wide.FinOn
import HandS.ForMost
import HandS.ForExc
import HandS.Flow
import HandS.Style
import HandS.TupAny
import HandS.TupMul
import HandS.IsInst
import HandS.Zip
import HandS.Conv
import KE.GoesMore
import HandS.CallSlots
import HandS.Words
import HandS.WordsExc
import HandS.Defaults
import HandS.HeadEnd
import HandS.HeadHook1
import HandS.HeadHook2
import HandS.EndTab
import HandS.HeadWalk
import HandS.Head0
import HandS.Head1
import HandS.Head2
import PySem.Challenge.RW_pictureframes_k51_running_sizes
set_option Elab.async false
set_option linter.all false
set_option maxRecDepth 100000
/-! PF, part a: values, the own syntax, the interpreter. Core Lean. -/
namespace PF
open PySem

abbrev Tx := List Nat

/-- a value as a tree: what is read, never written -/
inductive PV where
  | non | bl (b : Bool) | int (i : Int) | str (s : Tx)
  | tup (xs : List PV) | lst (xs : List PV) | frz (xs : List PV)
  | ins (c : Nat) (fs : List PV)

/-- what a slot holds: nothing known, a value that may stand elsewhere too, an own list, an own object -/
inductive OV where
  | emp | sh (v : PV) | lst (xs : List PV) | obj (c : Nat) (fs : List PV)

def OV.pv : OV → Option PV
  | .emp => none
  | .sh v => some v
  | .lst xs => some (.lst xs)
  | .obj c fs => some (.ins c fs)
def OV.own : OV → Bool
  | .lst _ => true
  | .obj _ _ => true
  | _ => false

structure PExc where
  c : Nat
  fs : List PV

abbrev S := List OV
inductive Res (α : Type) where
  | ok (a : α) (s : S) | exc (e : PExc) (s : S) | bad

def Res.bind {α β : Type} : Res α → (α → S → Res β) → Res β
  | .ok a s, k => k a s
  | .exc e s, _ => .exc e s
  | .bad, _ => .bad
def Res.opt {α : Type} (o : Option α) (s : S) : Res α := match o with
  | some a => .ok a s
  | none => .bad

/-! ### operations on values -/
inductive BOp where | add | sub | mul | mod | fdiv | pow
  deriving DecidableEq
inductive COp where | eq | ne | lt | le | gt | ge
  deriving DecidableEq
inductive Ty where | int | bool | str | list | tuple | dict | cls (c : Nat)
  deriving DecidableEq

def truth : PV → Option Bool
  | .non => some false
  | .bl b => some b
  | .int i => some (i != 0)
  | .str s => if s.length ≤ 16777216 then some (!s.isEmpty) else none
  | .tup xs => some (!xs.isEmpty)
  | .lst xs => some (!xs.isEmpty)
  | .frz xs => some (!xs.isEmpty)
  | .ins _ _ => none

def b2 (b : Bool) : Int := if b then 1 else 0
def strOkT (s : Tx) : Bool := s.all fun c => decide (c < 1114112)
/-! data that == may be asked of: no instances, not deeper than n -/
mutual
def eqOk : Nat → PV → Bool
  | _, .non => true
  | _, .bl _ => true
  | _, .int _ => true
  | _, .str s => strOkT s
  | 0, _ => false
  | n + 1, .tup xs => eqOks n xs
  | n + 1, .lst xs => eqOks n xs
  | _, _ => false
def eqOks : Nat → List PV → Bool
  | _, [] => true
  | n, x :: xs => eqOk n x && eqOks n xs
end
/-! == of data: as Python has it -/
mutual
def peq : PV → PV → Bool
  | .non, .non => true
  | .bl a, .bl b => a == b
  | .bl a, .int b => b2 a == b
  | .int a, .bl b => a == b2 b
  | .int a, .int b => a == b
  | .str a, .str b => a == b
  | .tup a, .tup b => peqs a b
  | .lst a, .lst b => peqs a b
  | _, _ => false
def peqs : List PV → List PV → Bool
  | [], [] => true
  | a :: as, b :: bs => peq a b && peqs as bs
  | _, _ => false
end

def big : Nat := 16777216
def bAdd : PV → PV → Option OV
  | .int a, .int b => some (.sh (.int (a + b)))
  | .lst a, .lst b => if a.length + b.length ≤ big then some (.lst (a ++ b)) else none
  | .tup a, .tup b => if a.length + b.length ≤ big then some (.sh (.tup (a ++ b))) else none
  | _, _ => none
def bSub : PV → PV → Option OV
  | .int a, .int b => some (.sh (.int (a - b)))
  | _, _ => none
def bMul : PV → PV → Option OV
  | .int a, .int b => if (-(2 ^ 64) < a ∧ a < 2 ^ 64) ∨ (-(2 ^ 64) < b ∧ b < 2 ^ 64) then some (.sh (.int (a * b))) else none
  | .lst a, .int k => if -(2 ^ 63) ≤ k ∧ k < 2 ^ 63 ∧ a.length * k.toNat ≤ big then some (.lst (List.replicate k.toNat a).flatten) else none
  | .tup a, .int k => if k = 1 then some (.sh (.tup a)) else if 2 ≤ k ∧ k ≤ 1000 ∧ a.isEmpty = false ∧ a.length ≤ 1000 then some (.sh (.tup (List.replicate k.toNat a).flatten)) else none
  | _, _ => none
def bMod : PV → PV → Option OV
  | .int a, .int b => if 0 < b then some (.sh (.int (a % b))) else none
  | _, _ => none
def bDiv : PV → PV → Option OV
  | .int a, .int b => if 0 < b ∧ b < 1073741824 then some (.sh (.int (a / b))) else none
  | _, _ => none
def bPow : PV → PV → Option OV
  | .int a, .int b => if 0 ≤ b ∧ b ≤ 1000000 ∧ a.natAbs < 2 ^ 64 then some (.sh (.int (a ^ b.toNat))) else none
  | _, _ => none
def binop : BOp → PV → PV → Option OV
  | .add => bAdd
  | .sub => bSub
  | .mul => bMul
  | .mod => bMod
  | .fdiv => bDiv
  | .pow => bPow

def cLt : PV → PV → Option Bool
  | .int a, .int b => some (decide (a < b))
  | _, _ => none
def cLe : PV → PV → Option Bool
  | .int a, .int b => some (decide (a ≤ b))
  | _, _ => none
def cmpop : COp → PV → PV → Option Bool
  | .eq, a, b => if eqOk 16 a && eqOk 16 b then some (peq a b) else none
  | .ne, a, b => if eqOk 16 a && eqOk 16 b then some (!peq a b) else none
  | .lt, a, b => cLt a b
  | .le, a, b => cLe a b
  | .gt, a, b => cLt b a
  | .ge, a, b => cLe b a

/-- the place of an index of any sign -/
def ixN (n : Nat) (i : Int) : Option Nat := if 0 ≤ i then (if i < n then some i.toNat else none) else if -(n : Int) ≤ i then some (i + n).toNat else none
def items : PV → Option (List PV)
  | .tup xs => some xs
  | .lst xs => some xs
  | .frz xs => some xs
  | _ => none
def index (a i : PV) : Option PV := match items a, i with
  | some xs, .int k => (ixN xs.length k).bind fun j => xs[j]?
  | _, _ => none
def sIx (n d : Nat) : Option Int → Nat
  | none => d
  | some v => if v < 0 then (v + (n : Int)).toNat else min v.toNat n
def cut {α : Type} (xs : List α) (lo hi : Option Int) : List α := (xs.drop (sIx xs.length 0 lo)).take (sIx xs.length xs.length hi - sIx xs.length 0 lo)
def slice (a : PV) (lo hi : Option Int) : Option OV := match a with
  | .lst xs => some (.lst (cut xs lo hi))
  | .frz xs => some (.lst (cut xs lo hi))
  | .tup xs => some (.sh (.tup (cut xs lo hi)))
  | _ => none
def reversed (a : PV) : Option OV := match a with
  | .lst xs => some (.lst xs.reverse)
  | .frz xs => some (.lst xs.reverse)
  | .tup xs => some (.sh (.tup xs.reverse))
  | _ => none

def isTy (t : Ty) : PV → Bool
  | .non => false
  | .bl _ => decide (t = .int) || decide (t = .bool)
  | .int _ => decide (t = .int)
  | .str _ => decide (t = .str)
  | .tup _ => decide (t = .tuple)
  | .lst _ => decide (t = .list)
  | .frz _ => decide (t = .list)
  | .ins c _ => decide (t = .cls c)

inductive Bi where | len | abs | max2 | min2 | tuple | list | int | all | any | sum
  deriving DecidableEq

def toInts : List PV → Option (List Int)
  | [] => some []
  | .int i :: r => (toInts r).map (i :: ·)
  | _ => none
def toBls : List PV → Option (List Bool)
  | [] => some []
  | .bl i :: r => (toBls r).map (i :: ·)
  | _ => none

def bi : Bi → List PV → Option OV
  | .len, [.str s] => if s.length ≤ big then some (.sh (.int s.length)) else none
  | .len, [a] => (items a).map fun xs => .sh (.int xs.length)
  | .abs, [.int i] => some (.sh (.int (if i < 0 then -i else i)))
  | .max2, [.int a, .int b] => some (.sh (.int (if b > a then b else a)))
  | .min2, [.int a, .int b] => some (.sh (.int (if b < a then b else a)))
  | .tuple, [.tup xs] => some (.sh (.tup xs))
  | .tuple, [.lst xs] => some (.sh (.tup xs))
  | .tuple, [.frz xs] => some (.sh (.tup xs))
  | .list, [a] => (items a).map fun xs => .lst xs
  | .int, [.int i] => some (.sh (.int i))
  | .int, [.bl b] => some (.sh (.int (b2 b)))
  | .all, [.lst xs] => (toBls xs).map fun bs => .sh (.bl (bs.all id))
  | .any, [.lst xs] => (toBls xs).map fun bs => .sh (.bl (bs.any id))
  | .sum, [.lst xs] => (toInts xs).map fun ns => .sh (.int ns.sum)
  | .sum, [.frz xs] => (toInts xs).map fun ns => .sh (.int ns.sum)
  | _, _ => none

/-- x in y: texts in a tuple or list of flat values -/
def flatP : PV → Bool
  | .non => true
  | .bl _ => true
  | .int _ => true
  | .str _ => true
  | _ => false
def eqP : PV → PV → Bool
  | .int a, .int b => a == b
  | .bl a, .bl b => a == b
  | .str a, .str b => a == b
  | .non, .non => true
  | .bl a, .int b => b2 a == b
  | .int a, .bl b => a == b2 b
  | _, _ => false
def inop (x y : PV) : Option Bool := match y with
  | .tup xs => if flatP x && xs.all flatP then some (xs.any fun z => eqP z x) else none
  | .lst xs => if flatP x && xs.all flatP then some (xs.any fun z => eqP z x) else none
  | _ => none

/-! ### the own syntax -/
mutual
inductive Tg where
  | v (i : Nat) | t (ts : Tgs)
inductive Tgs where
  | nil | cons (t : Tg) (ts : Tgs)
end

mutual
inductive Ex where
  | int (i : Int) | bl (b : Bool) | non | str (s : Tx) | var (i : Nat) | glb (g : Nat)
  | tup (es : Exs) | lst (es : Exs)
  | bin (o : BOp) (a b : Ex) | neg (a : Ex)
  | cmp (o : COp) (a b : Ex) | chn (o p : COp) (a b c : Ex)
  | isN (ng : Bool) (a : Ex) | inn (ng : Bool) (a b : Ex)
  | not (a : Ex) | and (a b : Ex) | or (a b : Ex) | ite (c a b : Ex)
  | ix (a b : Ex) | sl (a : Ex) (lo hi : Opt) | rev (a : Ex)
  | call (f : Nat) (es : Exs) | bi (b : Bi) (es : Exs) | isi (a : Ex) (ts : List Ty) (tp : Bool)
  | comp (elt : Ex) (tg : Tg) (src : Src) (own : List Nat) | compIf (elt : Ex) (tg : Tg) (src : Src) (c : Ex) (own : List Nat)
inductive Exs where
  | nil | cons (e : Ex) (es : Exs)
inductive Opt where
  | no | yes (e : Ex)
inductive Src where
  | seq (e : Ex) | rng (a : Ex) | rng2 (a b : Ex) | enum (e : Ex) | zip (a b : Ex)
end

mutual
inductive St where
  | expr (e : Ex) | app (i : Nat) (e : Ex) | set (t : Tg) (e : Ex) | par2 (i j : Nat) (a b : Ex) | par3 (i j k : Nat) (a b c : Ex)
  | setIx (i : Nat) (k e : Ex) | aug (i : Nat) (o : BOp) (e : Ex) | augIx (i : Nat) (k : Ex) (o : BOp) (e : Ex)
  | ret (e : Ex) | retN | pass | brk | cont
  | ifs (c : Ex) (a b : Sts) | for_ (t : Tg) (src : Src) (b : Sts) | while_ (c : Ex) (b : Sts)
  | raise (c : Nat) (es : Exs) | mtch (e : Ex) (cs : Cases) | never
inductive Sts where
  | nil | cons (s : St) (ss : Sts)
/-- match: each case a tuple of so many names (its places), a guard, a body; the last one takes all -/
inductive Cases where
  | all (b : Sts) | seq (is : List Nat) (g : Ex) (b : Sts) (r : Cases)
end

/-! ### the interpreter -/
/-- rho: a call's answer: its value, the state: what the parameters hold behind it -/
structure Env where
  glb : Nat → Option PV
  cst : Nat → List Nat
  rho : Nat → List OV → Res OV

def getO (s : S) (i : Nat) : OV := s.getD i .emp
def getV (s : S) (i : Nat) : Option PV := (getO s i).pv

mutual
def asg : Tg → PV → S → Option S
  | .v i, v, s => if i < s.length then some (s.set i (.sh v)) else none
  | .t ts, .tup vs, s => asgs ts vs s
  | .t _, _, _ => none
def asgs : Tgs → List PV → S → Option S
  | .nil, [], s => some s
  | .cons t ts, v :: vs, s => (asg t v s).bind fun s' => asgs ts vs s'
  | _, _, _ => none
end
mutual
def Tg.slots : Tg → List Nat
  | .v i => [i]
  | .t ts => ts.slots
def Tgs.slots : Tgs → List Nat
  | .nil => []
  | .cons t ts => t.slots ++ ts.slots
end

inductive CA where
  | v (p : PV) | s (i : Nat)
/-- the arguments, each an own value moved out of its slot or a value -/
def takeA : List CA → S → Option (List OV × S)
  | [], s => some ([], s)
  | .v p :: r, s => (takeA r s).map fun q => (.sh p :: q.1, q.2)
  | .s i :: r, s => match getO s i with
    | .emp => none
    | .sh v => (takeA r s).map fun q => (.sh v :: q.1, q.2)
    | o => (takeA r (s.set i .emp)).map fun q => (o :: q.1, q.2)
/-- behind the call: s0 the state ahead of takeA -/
def putA : List CA → List OV → S → S → S
  | .s i :: r, o :: os, s0, s => match getO s0 i with
    | .sh _ => putA r os s0 s
    | _ => putA r os s0 (s.set i o)
  | .v _ :: r, _ :: os, s0, s => putA r os s0 s
  | _, _, _, s => s

def wipeS (s : S) : List Nat → S
  | [] => s
  | v :: vs => (wipeS s vs).set v .emp
/-- an own place of a comprehension holds no own object -/
def plainAt (s : S) (own : List Nat) : Bool := own.all fun i => !(getO s i).own
def back (s0 : S) (own : List Nat) (s : S) : S := own.foldr (fun i t => t.set i (getO s0 i)) s

def rngL (lo hi : Int) : List PV := (List.range (hi - lo).toNat).map fun k => .int (lo + (k : Nat))
def enumL : Nat → List PV → List PV
  | _, [] => []
  | i, x :: xs => .tup [.int (i : Nat), x] :: enumL (i + 1) xs
def zipL : List PV → List PV → List PV
  | x :: xs, y :: ys => .tup [x, y] :: zipL xs ys
  | _, _ => []

def zipP : PV → PV → Option (List PV)
  | .tup xs, .tup ys => some (zipL xs ys)
  | .lst xs, .lst ys => some (zipL xs ys)
  | _, _ => none
def argR (e : Ex) (fe : S → Res OV) (b : Bool) (s : S) : Res CA := match e with
  | .var i => if (getO s i).own && b then .ok (.s i) s else (fe s).bind fun o s' => (Res.opt o.pv s').bind fun v s'' => .ok (.v v) s''
  | _ => (fe s).bind fun o s' => (Res.opt o.pv s').bind fun v s'' => .ok (.v v) s''
/-! ### results in a row -/
def frzR (r : Res OV) : Res PV := r.bind fun o s => Res.opt o.pv s
/-- a value that is read at once: an own object stays own -/
def peek (a : Ex) (fa : S → Res OV) (s : S) : Res PV := match a with
  | .var i => Res.opt (getV s i) s
  | _ => frzR (fa s)
/-- a value that is read behind another -/
def late {α : Type} (a : Ex) (fa : S → Res OV) (k : S → Res α) (s : S) : Res (PV × α) := match a with
  | .var i => (Res.opt (getV s i) s).bind fun _ s0 => (k s0).bind fun y s' => (Res.opt (getV s' i) s').bind fun x s'' => .ok (x, y) s''
  | _ => (frzR (fa s)).bind fun x s1 => (k s1).bind fun y s2 => .ok (x, y) s2
def boolR (r : Res Bool) : Res OV := r.bind fun k s => .ok (.sh (.bl k)) s
def valR (r : Res PV) : Res OV := r.bind fun v s => .ok (.sh v) s

/-- what a loop walks: its items; the own place that is locked meanwhile -/
abbrev Lk := Option (Nat × OV)
def lockO : Lk → S → S
  | none, s => s
  | some p, s => s.set p.1 .emp
def unlock : Lk → S → S
  | none, s => s
  | some p, s => s.set p.1 p.2
def lockCs (l : Lk) (cs : List Nat) : List Nat := match l with
  | none => cs
  | some p => p.1 :: cs
def openSeq (e : Ex) (fe : S → Res OV) (s : S) : Res (PV × Lk) := match e with
  | .var i => (Res.opt (getV s i) s).bind fun v s' => .ok (v, if (getO s i).own then some (i, getO s i) else none) s'
  | _ => (frzR (fe s)).bind fun v s' => .ok (v, none) s'

/-- the turns of a comprehension -/
def compL (own : List Nat) (body : PV → S → Res (Option PV)) : List PV → List PV → S → Res (List PV)
  | [], acc, s => .ok acc s
  | x :: xs, acc, s => match body x (wipeS s own) with
    | .ok (some y) s' => compL own body xs (acc ++ [y]) s'
    | .ok none s' => compL own body xs acc s'
    | .exc _ _ => .bad
    | .bad => .bad
def asgR (tg : Tg) (x : PV) (s : S) : Res Unit := match asg tg x s with
  | some s' => .ok () s'
  | none => .bad
def compR (own : List Nat) (body : PV → S → Res (Option PV)) (q : Res (List PV × Lk)) : Res OV :=
  q.bind fun p s1 => if plainAt s1 own && decide (p.1.length ≤ big) then
    (compL own body p.1 [] (wipeS (lockO p.2 s1) own)).bind fun ys s2 => .ok (.lst ys) (unlock p.2 (back s1 own s2))
  else .bad
def callR (r : Res OV) (cas : List CA) (s1 s2 : S) : Res OV := match r with
  | .ok o outs => .ok o (putA cas outs s1 s2)
  | .exc e outs => .exc e (putA cas outs s1 s2)
  | .bad => .bad
def intR (r : Res PV) : Res Int := r.bind fun v s => match v with
  | .int i => .ok i s
  | _ => .bad
def rngOk (a b : Int) : Bool := decide (-(2 ^ 62) ≤ a ∧ a < 2 ^ 62 ∧ -(2 ^ 62) ≤ b ∧ b < 2 ^ 62)

mutual
/-- an expression's value; an own object where it is new -/
def ev (Γ : Env) : Ex → S → Res OV
  | .int i, s => .ok (.sh (.int i)) s
  | .bl b, s => .ok (.sh (.bl b)) s
  | .non, s => .ok (.sh .non) s
  | .str x, s => .ok (.sh (.str x)) s
  | .var i, s => (Res.opt (getV s i) s).bind fun v s' => .ok (.sh v) (if (getO s i).own then s'.set i (.sh v) else s')
  | .glb g, s => (Res.opt (Γ.glb g) s).bind fun v s' => .ok (.sh v) s'
  | .tup es, s => (evs Γ es s).bind fun vs s' => .ok (.sh (.tup vs)) s'
  | .lst es, s => (evs Γ es s).bind fun vs s' => .ok (.lst vs) s'
  | .bin o a b, s => (late a (ev Γ a) (peek b (ev Γ b)) s).bind fun p s' => Res.opt (binop o p.1 p.2) s'
  | .neg a, s => (intR (frzR (ev Γ a s))).bind fun i s' => .ok (.sh (.int (-i))) s'
  | .cmp o a b, s => (late a (ev Γ a) (peek b (ev Γ b)) s).bind fun p s' => boolR (Res.opt (cmpop o p.1 p.2) s')
  | .chn o p a b c, s => (frzR (ev Γ a s)).bind fun x s1 => (frzR (ev Γ b s1)).bind fun y s2 => (Res.opt (cmpop o x y) s2).bind fun k s3 =>
      if k then (frzR (ev Γ c s3)).bind fun z s4 => boolR (Res.opt (cmpop p y z) s4) else .ok (.sh (.bl false)) s3
  | .isN ng a, s => (peek a (ev Γ a) s).bind fun v s' => .ok (.sh (.bl (match v with | .non => !ng | _ => ng))) s'
  | .inn ng a b, s => (late a (ev Γ a) (peek b (ev Γ b)) s).bind fun p s' => boolR ((Res.opt (inop p.1 p.2) s').bind fun k s'' => .ok (k != ng) s'')
  | .not a, s => (peek a (ev Γ a) s).bind fun v s' => (Res.opt (truth v) s').bind fun k s1 => .ok (.sh (.bl (!k))) s1
  | .and a b, s => (frzR (ev Γ a s)).bind fun v s' => (Res.opt (truth v) s').bind fun k s'' => if k then ev Γ b s'' else .ok (.sh v) s''
  | .or a b, s => (frzR (ev Γ a s)).bind fun v s' => (Res.opt (truth v) s').bind fun k s'' => if k then .ok (.sh v) s'' else ev Γ b s''
  | .ite c a b, s => (te Γ c s).bind fun k s' => if k then ev Γ a s' else ev Γ b s'
  | .ix a b, s => (late a (ev Γ a) (fun s' => frzR (ev Γ b s')) s).bind fun p s' => valR (Res.opt (index p.1 p.2) s')
  | .sl a lo hi, s => (late a (ev Γ a) (fun s' => (evO Γ lo s').bind fun i s1 => (evO Γ hi s1).bind fun j s2 => .ok (i, j) s2) s).bind fun p s' =>
      Res.opt (slice p.1 p.2.1 p.2.2) s'
  | .rev a, s => (peek a (ev Γ a) s).bind fun v s' => Res.opt (reversed v) s'
  | .call f es, s => (evA Γ (Γ.cst f) 0 es s).bind fun cas s1 => match takeA cas s1 with
    | none => .bad
    | some q => callR (Γ.rho f q.1) cas s1 q.2
  | .bi b es, s => (evP Γ es s).bind fun vs s' => Res.opt (bi b vs) s'
  | .isi a tys _, s => (peek a (ev Γ a) s).bind fun v s' => .ok (.sh (.bl (tys.any fun t => isTy t v))) s'
  | .comp elt tg src own, s => compR own (fun x st => (asgR tg x st).bind fun _ st' => (frzR (ev Γ elt st')).bind fun y st2 => .ok (some y) st2) (srcs Γ src s)
  | .compIf elt tg src c own, s => compR own (fun x st => (asgR tg x st).bind fun _ st' => (te Γ c st').bind fun k st1 =>
      if k then (frzR (ev Γ elt st1)).bind fun y st2 => .ok (some y) st2 else .ok none st1) (srcs Γ src s)
/-- a test -/
def te (Γ : Env) : Ex → S → Res Bool
  | .and a b, s => (te Γ a s).bind fun k s' => if k then te Γ b s' else .ok false s'
  | .or a b, s => (te Γ a s).bind fun k s' => if k then .ok true s' else te Γ b s'
  | .not a, s => (te Γ a s).bind fun k s' => .ok (!k) s'
  | .var i, s => (Res.opt (getV s i) s).bind fun v s' => Res.opt (truth v) s'
  | .int i, s => .ok (i != 0) s
  | .bl b, s => .ok b s
  | .cmp o a b, s => (late a (ev Γ a) (peek b (ev Γ b)) s).bind fun p s' => Res.opt (cmpop o p.1 p.2) s'
  | .chn o p a b c, s => (frzR (ev Γ a s)).bind fun x s1 => (frzR (ev Γ b s1)).bind fun y s2 => (Res.opt (cmpop o x y) s2).bind fun k s3 =>
      if k then (frzR (ev Γ c s3)).bind fun z s4 => Res.opt (cmpop p y z) s4 else .ok false s3
  | .isN ng a, s => (peek a (ev Γ a) s).bind fun v s' => .ok (match v with | .non => !ng | _ => ng) s'
  | .inn ng a b, s => (late a (ev Γ a) (peek b (ev Γ b)) s).bind fun p s' => (Res.opt (inop p.1 p.2) s').bind fun k s'' => .ok (k != ng) s''
  | .ite c a b, s => (te Γ c s).bind fun k s' => if k then te Γ a s' else te Γ b s'
  | .ix a b, s => (late a (ev Γ a) (fun s' => frzR (ev Γ b s')) s).bind fun p s' => (Res.opt (index p.1 p.2) s').bind fun v s1 => Res.opt (truth v) s1
  | .call f es, s => (evA Γ (Γ.cst f) 0 es s).bind fun cas s1 => match takeA cas s1 with
    | none => .bad
    | some q => (frzR (callR (Γ.rho f q.1) cas s1 q.2)).bind fun v s2 => Res.opt (truth v) s2
  | .bi b es, s => (evP Γ es s).bind fun vs s' => (frzR (Res.opt (bi b vs) s')).bind fun v s1 => Res.opt (truth v) s1
  | .isi a tys _, s => (peek a (ev Γ a) s).bind fun v s' => .ok (tys.any fun t => isTy t v) s'
  | _, _ => .bad
def evs (Γ : Env) : Exs → S → Res (List PV)
  | .nil, s => .ok [] s
  | .cons e es, s => (frzR (ev Γ e s)).bind fun v s' => (evs Γ es s').bind fun vs s'' => .ok (v :: vs) s''
/-- a built-in's arguments: one alone is read at once -/
def evP (Γ : Env) : Exs → S → Res (List PV)
  | .nil, s => .ok [] s
  | .cons e .nil, s => (peek e (ev Γ e) s).bind fun v s' => .ok [v] s'
  | .cons e es, s => (frzR (ev Γ e s)).bind fun v s' => (evs Γ es s').bind fun vs s'' => .ok (v :: vs) s''
def evA (Γ : Env) (cs : List Nat) : Nat → Exs → S → Res (List CA)
  | _, .nil, s => .ok [] s
  | k, .cons e es, s => (argR e (ev Γ e) (cs.contains k) s).bind fun c s' => (evA Γ cs (k + 1) es s').bind fun r s'' => .ok (c :: r) s''
def evO (Γ : Env) : Opt → S → Res (Option Int)
  | .no, s => .ok none s
  | .yes e, s => (intR (frzR (ev Γ e s))).bind fun i s' => .ok (some i) s'
def srcs (Γ : Env) : Src → S → Res (List PV × Lk)
  | .seq e, s => (openSeq e (ev Γ e) s).bind fun p s' => (Res.opt (items p.1) s').bind fun xs s'' => .ok (xs, p.2) s''
  | .rng a, s => (intR (frzR (ev Γ a s))).bind fun n s' => if rngOk 0 n then .ok (rngL 0 n, none) s' else .bad
  | .rng2 a b, s => (intR (frzR (ev Γ a s))).bind fun m s1 => (intR (frzR (ev Γ b s1))).bind fun n s' => if rngOk m n then .ok (rngL m n, none) s' else .bad
  | .enum e, s => (openSeq e (ev Γ e) s).bind fun p s' => (Res.opt (items p.1) s').bind fun xs s'' => .ok (enumL 0 xs, p.2) s''
  | .zip a b, s => (frzR (ev Γ a s)).bind fun x s1 => (frzR (ev Γ b s1)).bind fun y s2 => (Res.opt (zipP x y) s2).bind fun xs s3 => .ok (xs, none) s3
end

/-! ### statements -/
inductive Fl where
  | nx | rt (o : OV) | bk | ct
def setV (cs : List Nat) (i : Nat) (o : OV) (s : S) : Res Fl := if decide (i < s.length) && !cs.contains i then .ok .nx (s.set i o) else .bad
def asgF (cs : List Nat) (t : Tg) (v : PV) (s : S) : Res Fl := if t.slots.all (fun i => !cs.contains i) then (asgR t v s).bind fun _ s' => .ok .nx s' else .bad

/-- the turns of a for -/
def forL (turn : PV → S → Res Fl) : List PV → S → Res Fl
  | [], s => .ok .nx s
  | x :: xs, s => (turn x s).bind fun f s' => match f with
    | .nx => forL turn xs s'
    | .ct => forL turn xs s'
    | .bk => .ok .nx s'
    | .rt o => .ok (.rt o) s'
/-- the turns of a while, at most so many -/
def whileL (c : S → Res Bool) (b : S → Res Fl) : Nat → S → Res Fl
  | 0, _ => .bad
  | n + 1, s => (c s).bind fun k s1 => if k then (b s1).bind fun f s' => match f with
      | .nx => whileL c b n s'
      | .ct => whileL c b n s'
      | .bk => .ok .nx s'
      | .rt o => .ok (.rt o) s'
    else .ok .nx s1
def wf : Nat := 100000
def unlockR (l : Lk) : Res Fl → Res Fl
  | .ok f s => .ok f (unlock l s)
  | .exc e s => .exc e (unlock l s)
  | .bad => .bad
def appR (i : Nat) (v : PV) (s : S) : Res Fl := match getO s i with
  | .lst xs => if xs.length < big then .ok .nx (s.set i (.lst (xs ++ [v]))) else .bad
  | _ => .bad
def setIxR (i : Nat) (k : PV) (v : PV) (s : S) : Res Fl := match getO s i, k with
  | .lst xs, .int k => (match ixN xs.length k with
    | some j => .ok .nx (s.set i (.lst (xs.set j v)))
    | none => .bad)
  | _, _ => .bad
/-- the names of a case, from the first -/
def bindAll : List Nat → List PV → S → S
  | i :: is, v :: vs, s => bindAll is vs (s.set i (.sh v))
  | _, _, s => s

def idxO : OV → Int → Option PV
  | .lst xs, j => (ixN xs.length j).bind fun k => xs[k]?
  | _, _ => none
/-- a op= b of ints -/
def augop : BOp → Int → Int → Option Int
  | .add, a, b => some (a + b)
  | .sub, a, b => some (a - b)
  | .fdiv, a, b => if 0 < b ∧ b < 1073741824 then some (a / b) else none
  | .mod, a, b => if 0 < b then some (a % b) else none
  | .mul, a, b => if (-(2 ^ 64) < a ∧ a < 2 ^ 64) ∨ (-(2 ^ 64) < b ∧ b < 2 ^ 64) then some (a * b) else none
  | .pow, _, _ => none

mutual
def ex (Γ : Env) : List Nat → St → S → Res Fl
  | _, .expr e, s => (frzR (ev Γ e s)).bind fun _ s' => .ok .nx s'
  | _, .app i e, s => match getO s i with
    | .lst _ => (frzR (ev Γ e s)).bind fun v s' => appR i v s'
    | _ => .bad
  | cs, .set t e, s => match t with
    | .v i => (ev Γ e s).bind fun o s' => setV cs i o s'
    | t => (frzR (ev Γ e s)).bind fun v s' => asgF cs t v s'
  | cs, .par2 i j a b, s => (ev Γ a s).bind fun x s1 => (ev Γ b s1).bind fun y s2 => (setV cs i x s2).bind fun _ s3 => setV cs j y s3
  | cs, .par3 i j k a b c, s => (ev Γ a s).bind fun x s1 => (ev Γ b s1).bind fun y s2 => (ev Γ c s2).bind fun z s3 =>
      (setV cs i x s3).bind fun _ s4 => (setV cs j y s4).bind fun _ s5 => setV cs k z s5
  | _, .setIx i k e, s => (frzR (ev Γ e s)).bind fun v s1 => match getO s1 i with
    | .lst _ => (frzR (ev Γ k s1)).bind fun j s2 => setIxR i j v s2
    | _ => .bad
  | cs, .aug i o e, s => (intR (Res.opt (getV s i) s)).bind fun x s0 => (intR (frzR (ev Γ e s0))).bind fun y s1 => (Res.opt (augop o x y) s1).bind fun z s2 => setV cs i (.sh (.int z)) s2
  | _, .augIx i k o e, s => match getO s i with
    | .lst _ => (intR (frzR (ev Γ k s))).bind fun j s1 => (intR (Res.opt (idxO (getO s1 i) j) s1)).bind fun x s2 =>
      (intR (frzR (ev Γ e s2))).bind fun y s3 => (Res.opt (augop o x y) s3).bind fun z s4 => setIxR i (.int j) (.int z) s4
    | _ => .bad
  | _, .ret e, s => (ev Γ e s).bind fun o s' => .ok (.rt o) s'
  | _, .retN, s => .ok (.rt (.sh .non)) s
  | _, .pass, s => .ok .nx s
  | _, .brk, s => .ok .bk s
  | _, .cont, s => .ok .ct s
  | cs, .ifs c a b, s => (te Γ c s).bind fun k s' => if k then exs Γ cs a s' else exs Γ cs b s'
  | cs, .for_ t src b, s => (srcs Γ src s).bind fun p s1 =>
      unlockR p.2 (forL (fun x st => (asgF (lockCs p.2 cs) t x st).bind fun _ st' => exs Γ (lockCs p.2 cs) b st') p.1 (lockO p.2 s1))
  | cs, .while_ c b, s => whileL (te Γ c) (exs Γ cs b) wf s
  | _, .raise c es, s => (evs Γ es s).bind fun vs s' => .exc ⟨c, vs⟩ s'
  | cs, .mtch e r, s => (frzR (ev Γ e s)).bind fun v s' => exm Γ cs v r s'
  | _, .never, _ => .bad
def exs (Γ : Env) : List Nat → Sts → S → Res Fl
  | _, .nil, s => .ok .nx s
  | cs, .cons a r, s => (ex Γ cs a s).bind fun f s' => match f with
    | .nx => exs Γ cs r s'
    | f => .ok f s'
def exm (Γ : Env) : List Nat → PV → Cases → S → Res Fl
  | cs, _, .all b, s => exs Γ cs b s
  | cs, v, .seq is g b r, s => match v with
    | .tup vs => if vs.length = is.length then
        (if is.all (fun i => decide (i < s.length) && !cs.contains i) then (te Γ g (bindAll is vs s)).bind fun k s' => if k then exs Γ cs b s' else exm Γ cs v r s' else .bad)
      else exm Γ cs v r s
    | _ => .bad
end

/-! ### defs -/
structure Fn where
  nm : List Tx
  np : Nat
  cst : List Nat
  body : Sts
abbrev Prog := List Fn
def outsOf (fn : Fn) (s : S) : List OV := (List.range fn.np).map fun k => if fn.cst.contains k then getO s k else .emp
def runBody (Γ : Env) (fn : Fn) (args : List OV) : Res OV :=
  if args.length = fn.np then
    match exs Γ fn.cst fn.body (args ++ List.replicate (fn.nm.length - fn.np) .emp) with
    | .ok .nx s => .ok (.sh .non) (outsOf fn s)
    | .ok (.rt o) s => .ok o (outsOf fn s)
    | .exc e s => .exc e (outsOf fn s)
    | _ => .bad
  else .bad
def callD (P : Prog) (glb : Nat → Option PV) : Nat → Nat → List OV → Res OV
  | 0, _, _ => .bad
  | d + 1, f, args => match P[f]? with
    | none => .bad
    | some fn => runBody ⟨glb, fun g => (P[g]?).elim [] Fn.cst, callD P glb d⟩ fn args

/-! ### the checker: an own text is the program's -/
def mkS (t : Tx) : Str := ⟨t.toArray⟩
structure GN where
  glb : Nat → Option Tx
  fn : Nat → Option Tx
  cls : Nat → Option Tx
def isNm (N : List Tx) (i : Nat) (x : Str) : Bool := match N[i]? with
  | some t => decide (mkS t = x)
  | none => false
def isO (o : Option Tx) (x : Str) : Bool := match o with
  | some t => decide (mkS t = x)
  | none => false
def noDbg (x : Str) : Bool := !(x == ("__debug__" : Str)) && !(x == ("__classdict__" : Str))
def visB (sc : Scope) (x : Str) : Bool := match sc.names.lookup x with
  | some .local => true
  | some .cell => true
  | some .free => true
  | _ => false
def glB (sc : Scope) (x : Str) : Bool := decide (sc.names.lookup x = some .globalImplicit) && noDbg x
def locB (sc : Scope) (fnc : Str → Bool) (x : Str) : Bool := match sc.names.lookup x with
  | some .local => true
  | some .cell => fnc x
  | _ => false
def opB : BOp → Operator → Bool
  | .add, .Add => true
  | .sub, .Sub => true
  | .mul, .Mult => true
  | .mod, .Mod => true
  | .fdiv, .FloorDiv => true
  | .pow, .Pow => true
  | _, _ => false
def opC : COp → CmpOp → Bool
  | .eq, .Eq => true
  | .ne, .NotEq => true
  | .lt, .Lt => true
  | .le, .LtE => true
  | .gt, .Gt => true
  | .ge, .GtE => true
  | _, _ => false
def biS : Bi → Str
  | .len => "len" | .abs => "abs" | .max2 => "max" | .min2 => "min" | .tuple => "tuple" | .list => "list" | .int => "int" | .all => "all" | .any => "any" | .sum => "sum"
def tyS : Ty → Option Str
  | .int => some "int" | .bool => some "bool" | .str => some "str" | .list => some "list" | .tuple => some "tuple" | .dict => some "dict" | .cls _ => none
def nStar : Expr → Bool
  | .Starred _ _ => false
  | _ => true
def chkTy (gn : GN) (sc : Scope) (t : Ty) : Expr → Bool
  | .Name x _ => glB sc x && (match t with
    | .cls c => isO (gn.cls c) x
    | t => decide (tyS t = some x))
  | _ => false
def chkTys (gn : GN) (sc : Scope) : List Ty → List Expr → Bool
  | [], [] => true
  | t :: ts, e :: es => chkTy gn sc t e && chkTys gn sc ts es
  | _, _ => false
def chkIs (gn : GN) (sc : Scope) : Bool → List Ty → Expr → Bool
  | false, [ty], t => chkTy gn sc ty t
  | true, ts, .Tuple l _ _ => decide (l.length ≤ 1000) && chkTys gn sc ts l
  | _, _, _ => false
def isTup : Expr → Bool
  | .Tuple _ _ _ => true
  | _ => false
def slB : Expr → Option (Option Expr × Option Expr)
  | .Slice lo hi none _ => some (lo, hi)
  | _ => none
def ownP (N : List Tx) (own : List Nat) : List (Str × Nat) := own.filterMap fun i => (N[i]?).map fun t => (mkS t, i)

mutual
def chkT (N : List Tx) (sc : Scope) (fnc : Str → Bool) : Tg → Expr → Bool
  | .v i, e => (match e with
    | .Name x _ => isNm N i x && locB sc fnc x
    | _ => false)
  | .t ts, e => (match e with
    | .Tuple es _ _ => chkTs N sc fnc ts es
    | _ => false)
def chkTs (N : List Tx) (sc : Scope) (fnc : Str → Bool) : Tgs → List Expr → Bool
  | .nil, es => (match es with
    | [] => true
    | _ => false)
  | .cons t ts, es => (match es with
    | e :: es => chkT N sc fnc t e && chkTs N sc fnc ts es
    | _ => false)
end
def blkB (N : List Tx) (sc scope : Scope) (own : List Nat) : Bool := L2.blkC (N.map mkS) sc scope (ownP N own) && decide ((ownP N own).map (·.2) = own)
def fncOf (scope : Scope) : Str → Bool := fun x => scope.names.lookup x == some .cell

mutual
def chk (gn : GN) (N : List Tx) (sc : Scope) : Ex → Expr → Bool
  | .int i, e => (match e with
    | .Constant (.int j) _ _ => decide (i = j)
    | _ => false)
  | .bl b, e => (match e with
    | .Constant (.bool c) _ _ => b == c
    | _ => false)
  | .non, e => (match e with
    | .Constant .none _ _ => true
    | _ => false)
  | .str t, e => (match e with
    | .Constant (.str x) _ _ => decide (mkS t = x)
    | _ => false)
  | .var i, e => (match e with
    | .Name x _ => isNm N i x && visB sc x && noDbg x
    | _ => false)
  | .glb g, e => (match e with
    | .Name x _ => isO (gn.glb g) x && glB sc x
    | _ => false)
  | .tup es, e => (match e with
    | .Tuple l _ _ => decide (l.length ≤ 1000) && chks gn N sc es l
    | _ => false)
  | .lst es, e => (match e with
    | .List l _ => decide (l.length ≤ 1000) && chks gn N sc es l
    | _ => false)
  | .bin o a b, e => (match e with
    | .BinOp l op r _ => opB o op && chk gn N sc a l && chk gn N sc b r
    | _ => false)
  | .neg a, e => (match e with
    | .UnaryOp .USub x _ => chk gn N sc a x
    | _ => false)
  | .cmp o a b, e => (match e with
    | .Compare l [op] [r] _ => opC o op && chk gn N sc a l && chk gn N sc b r
    | _ => false)
  | .chn o p a b c, e => (match e with
    | .Compare l [op, op2] [m, r] _ => opC o op && opC p op2 && chk gn N sc a l && chk gn N sc b m && chk gn N sc c r
    | _ => false)
  | .isN ng a, e => (match e with
    | .Compare l [op] [.Constant .none _ _] _ => decide (op = if ng then .IsNot else .Is) && chk gn N sc a l
    | _ => false)
  | .inn ng a b, e => (match e with
    | .Compare l [op] [r] _ => decide (op = if ng then .NotIn else .In) && !behindInMarks op r && chk gn N sc a l && chk gn N sc b r
    | _ => false)
  | .not a, e => (match e with
    | .UnaryOp .Not x _ => chk gn N sc a x
    | _ => false)
  | .and a b, e => (match e with
    | .BoolOp .And (x :: y :: r) p => chk gn N sc a x && (match r with
      | [] => chk gn N sc b y
      | _ => chk gn N sc b (.BoolOp .And (y :: r) p))
    | _ => false)
  | .or a b, e => (match e with
    | .BoolOp .Or (x :: y :: r) p => chk gn N sc a x && (match r with
      | [] => chk gn N sc b y
      | _ => chk gn N sc b (.BoolOp .Or (y :: r) p))
    | _ => false)
  | .ite c a b, e => (match e with
    | .IfExp t x y _ => chk gn N sc c t && chk gn N sc a x && chk gn N sc b y
    | _ => false)
  | .ix a b, e => (match e with
    | .Subscript x i _ => (slB i).isNone && chk gn N sc a x && chk gn N sc b i
    | _ => false)
  | .sl a lo hi, e => (match e with
    | .Subscript x i _ => (match slB i with
      | some (l, h) => chk gn N sc a x && chkO gn N sc lo l && chkO gn N sc hi h
      | none => false)
    | _ => false)
  | .rev a, e => (match e with
    | .Subscript x (.Slice none none (some (.UnaryOp .USub (.Constant (.int i) _ _) _)) _) _ => decide (i = 1) && chk gn N sc a x
    | _ => false)
  | .call f es, e => (match e with
    | .Call (.Name x _) l [] _ => isO (gn.fn f) x && glB sc x && chks gn N sc es l
    | _ => false)
  | .bi b es, e => (match e with
    | .Call (.Name x _) l [] _ => decide (biS b = x) && glB sc x && chks gn N sc es l
    | _ => false)
  | .isi a ts tp, e => (match e with
    | .Call (.Name x _) [y, t] [] _ => decide (x = ("isinstance" : Str)) && glB sc x && chk gn N sc a y && chkIs gn sc tp ts t
    | _ => false)
  | .comp elt tg src own, e => (match e with
    | .ListComp x [⟨t, it, [], z⟩] scope _ => decide (z = 0) && blkB N sc scope own && chk gn N (L2.relS scope sc) elt x && chkT N (L2.relS scope sc) (fncOf scope) tg t && chkS gn N sc src it t && tg.slots.all own.contains
    | _ => false)
  | .compIf elt tg src c own, e => (match e with
    | .ListComp x [⟨t, it, [c'], z⟩] scope _ => decide (z = 0) && blkB N sc scope own && chk gn N (L2.relS scope sc) elt x && chkT N (L2.relS scope sc) (fncOf scope) tg t && chkS gn N sc src it t && chk gn N (L2.relS scope sc) c c' && tg.slots.all own.contains
    | _ => false)
def chks (gn : GN) (N : List Tx) (sc : Scope) : Exs → List Expr → Bool
  | .nil, l => l.isEmpty
  | .cons e es, l => (match l with
    | x :: r => chk gn N sc e x && chks gn N sc es r
    | _ => false)
def chkO (gn : GN) (N : List Tx) (sc : Scope) : Opt → Option Expr → Bool
  | .no, o => o.isNone
  | .yes e, o => (match o with
    | some x => chk gn N sc e x
    | none => false)
def chkS (gn : GN) (N : List Tx) (sc : Scope) : Src → Expr → Expr → Bool
  | .seq a, e, _ => chk gn N sc a e
  | .rng a, e, _ => (match e with
    | .Call (.Name x _) [y] [] _ => decide (x = ("range" : Str)) && glB sc x && chk gn N sc a y
    | _ => false)
  | .rng2 a b, e, _ => (match e with
    | .Call (.Name x _) [y, z] [] _ => decide (x = ("range" : Str)) && glB sc x && chk gn N sc a y && chk gn N sc b z
    | _ => false)
  | .enum a, e, t => (match e with
    | .Call (.Name x _) [y] [] _ => decide (x = ("enumerate" : Str)) && glB sc x && chk gn N sc a y && isTup t
    | _ => false)
  | .zip a b, e, t => (match e with
    | .Call (.Name x _) [y, z] [] _ => decide (x = ("zip" : Str)) && glB sc x && chk gn N sc a y && chk gn N sc b z && isTup t
    | _ => false)
end

/-! ### statements: the checker -/
def isComp : Expr → Bool
  | .ListComp _ _ _ _ => true
  | .SetComp _ _ _ _ => true
  | .DictComp _ _ _ _ _ => true
  | _ => false
/-- name = [..]: the answer of the model's test whether the name is stored ahead -/
def swB (sc : Scope) (x : Str) (px : Pos) : Expr → Bool
  | .ListComp _ _ s p => (sc.names.lookup x == some .local) && (px.line == p.line) && !(s.names.any fun y => y.1 == x && (y.2 == .local || y.2 == .cell))
  | _ => false
def lone : Expr → Bool
  | .SetComp _ _ _ _ => false
  | .DictComp _ _ _ _ _ => false
  | _ => true
def isNmL (N : List Tx) (sc : Scope) (i : Nat) : Expr → Bool
  | .Name x _ => isNm N i x && locB sc (fun _ => true) x
  | _ => false
def isLocal (sc : Scope) : Expr → Bool
  | .Name x _ => decide (sc.names.lookup x = some .local)
  | _ => false
/-- a, b = .., the targets' line, and no fold of all -/
def nmPos : Expr → Option Pos
  | .Name _ p => some p
  | _ => none
def parB (ts vs : List Expr) : Bool := (match ts with
  | t :: _ => ts.all fun u => (u.pos.line == t.pos.line)
  | [] => false) && !vs.all (foldedForSure 8) && !vs.all (constantsAlone 8)
def notSub : Expr → Bool
  | .Slice _ _ _ _ => false
  | _ => true
def capNames : List Pattern → Option (List Str)
  | [] => some []
  | .MatchAs none (some x) _ :: r => (capNames r).map (x :: ·)
  | _ => none
def nmsOk (N : List Tx) (sc : Scope) : List Nat → List Str → Bool
  | [], [] => true
  | i :: is, x :: xs => isNm N i x && locB sc (fun _ => true) x && nmsOk N sc is xs
  | _, _ => false
def notTup : Expr → Bool
  | .Tuple _ _ _ => false
  | _ => true

mutual
def chkSt (gn : GN) (N : List Tx) (sc : Scope) : St → Stmt → Bool
  | .expr e, st => (match st with
    | .Expr x _ => !isComp x && chk gn N sc e x
    | _ => false)
  | .app i e, st => (match st with
    | .Expr (.Call (.Attribute (.Name x px) at_ ap) [y] [] cp) _ => decide (at_ = ("append" : Str)) && (ap.endLine == cp.line) && chk gn N sc (.var i) (.Name x px) && chk gn N sc e y
    | _ => false)
  | .set t e, st => (match st with
    | .Assign [tg] y _ => notTup y && lone y && chkT N sc (fun _ => true) t tg && chk gn N sc e y
    | _ => false)
  | .par2 i j a b, st => (match st with
    | .Assign [.Tuple [t1, t2] _ _] (.Tuple [x, y] _ _) _ => decide (i ≠ j) && isNmL N sc i t1 && isNmL N sc j t2 && isLocal sc t1 && isLocal sc t2 && parB [t1, t2] [x, y] && chk gn N sc a x && chk gn N sc b y
    | _ => false)
  | .par3 i j k a b c, st => (match st with
    | .Assign [.Tuple [t1, t2, t3] _ _] (.Tuple [x, y, z] _ _) _ => decide (i ≠ j) && decide (i ≠ k) && decide (j ≠ k) && isNmL N sc i t1 && isNmL N sc j t2 && isNmL N sc k t3 && isLocal sc t1 && isLocal sc t2 && isLocal sc t3 &&
        parB [t1, t2, t3] [x, y, z] && chk gn N sc a x && chk gn N sc b y && chk gn N sc c z
    | _ => false)
  | .setIx i k e, st => (match st with
    | .Assign [.Subscript x s _] y _ => notSub s && !isComp y && chk gn N sc (.var i) x && chk gn N sc k s && chk gn N sc e y
    | _ => false)
  | .aug i o e, st => (match st with
    | .AugAssign t op y _ => opB o op && isNmL N sc i t && chk gn N sc e y
    | _ => false)
  | .augIx i k o e, st => (match st with
    | .AugAssign (.Subscript x s _) op y _ => opB o op && notSub s && chk gn N sc (.var i) x && chk gn N sc k s && chk gn N sc e y
    | _ => false)
  | .ret e, st => (match st with
    | .Return (some x) _ => chk gn N sc e x
    | _ => false)
  | .retN, st => (match st with
    | .Return none _ => true
    | _ => false)
  | .pass, st => (match st with
    | .Pass _ => true
    | _ => false)
  | .brk, st => (match st with
    | .Break _ => true
    | _ => false)
  | .cont, st => (match st with
    | .Continue _ => true
    | _ => false)
  | .ifs c a b, st => (match st with
    | .If t x y _ => chk gn N sc c t && chkSts gn N sc a x && chkSts gn N sc b y
    | _ => false)
  | .for_ t src b, st => (match st with
    | .For tg it x [] _ => chkT N sc (fun _ => true) t tg && chkS gn N sc src it tg && chkSts gn N sc b x
    | _ => false)
  | .while_ c b, st => (match st with
    | .While t x [] _ => chk gn N sc c t && chkSts gn N sc b x
    | _ => false)
  | .raise _ _, _ => false
  | .mtch e r, st => (match st with
    | .Match x cs _ => chk gn N sc e x && chkCs gn N sc r cs
    | _ => false)
  | .never, _ => true
def chkSts (gn : GN) (N : List Tx) (sc : Scope) : Sts → List Stmt → Bool
  | .nil, l => l.isEmpty
  | .cons a r, l => (match l with
    | x :: l => chkSt gn N sc a x && chkSts gn N sc r l
    | _ => false)
def chkCs (gn : GN) (N : List Tx) (sc : Scope) : Cases → List MatchCase → Bool
  | .all b, l => (match l with
    | [⟨.MatchAs none none _, none, x⟩] => chkSts gn N sc b x
    | _ => false)
  | .seq is g b r, l => (match l with
    | ⟨.MatchSequence ps _, some t, x⟩ :: l => (match capNames ps with
      | some xs => !is.isEmpty && decide (is.Nodup) && nmsOk N sc is xs
      | none => false) && chk gn N sc g t && chkSts gn N sc b x && chkCs gn N sc r l
    | _ => false)
end
end PF
set_option Elab.async false
set_option linter.all false
set_option maxRecDepth 100000
/-! PF, part b: what a tree, a slot say of the abstract heap. -/
namespace PF
open PySem PySem.Spec PyProof.Rows
open L2 (V Hp HO upd upd_same upd_ne Same SqL SqT WX)

structure Gm where
  K : PySem.W.Frag
  cl : Nat → Addr
  fnm : Nat → List Str
  kn : Nat → Prop
  xcl : Nat → Addr
  xfn : Nat → List Str

mutual
def Rep (g : Gm) (H : Hp) : PV → V → Prop
  | .non, x => x = .non
  | .bl b, x => x = .bl b
  | .int i, x => x = .int i
  | .str s, x => x = .str (mkS s)
  | .tup xs, x => ∃ a vs, x = .ref a ∧ SqT g.K H a vs ∧ Reps g H xs vs
  | .lst xs, x => ∃ a vs, x = .ref a ∧ H a = some (.lst vs) ∧ Reps g H xs vs
  | .frz xs, x => ∃ a vs, x = .ref a ∧ SqL g.K H a vs ∧ Reps g H xs vs
  | .ins c fs, x => g.kn c ∧ ∃ a dx vs, x = .ref a ∧ H a = some (.ins (g.cl c) dx ((g.fnm c).zip vs)) ∧ Reps g H fs vs
def Reps (g : Gm) (H : Hp) : List PV → List V → Prop
  | [], vs => vs = []
  | x :: xs, vs => ∃ v r, vs = v :: r ∧ Rep g H x v ∧ Reps g H xs r
end

theorem sqT_mono {K : PySem.W.Frag} {H H' : Hp} {a : Addr} {xs : List V} (e : Same H H') (h : SqT K H a xs) : SqT K H' a xs := by
  rcases h with (h | ⟨o, h⟩) | h
  · exact .inl (.inl (e _ _ h))
  · exact .inl (.inr ⟨o, e _ _ h⟩)
  · exact .inr h
mutual
theorem Rep.mono {g : Gm} {H H' : Hp} (m : Same H H') : ∀ (v : PV) (x : V), Rep g H v x → Rep g H' v x
  | .non, _, h => h
  | .bl _, _, h => h
  | .int _, _, h => h
  | .str _, _, h => h
  | .tup xs, _, h => by
    obtain ⟨a, vs, e, s, r⟩ := h
    exact ⟨a, vs, e, sqT_mono m s, Reps.mono m xs vs r⟩
  | .lst xs, _, h => by
    obtain ⟨a, vs, e, s, r⟩ := h
    exact ⟨a, vs, e, m _ _ s, Reps.mono m xs vs r⟩
  | .frz xs, _, h => by
    obtain ⟨a, vs, e, s, r⟩ := h
    exact ⟨a, vs, e, m.seq s, Reps.mono m xs vs r⟩
  | .ins c fs, _, h => by
    obtain ⟨kn, a, dx, vs, e, s, r⟩ := h
    exact ⟨kn, a, dx, vs, e, m _ _ s, Reps.mono m fs vs r⟩
theorem Reps.mono {g : Gm} {H H' : Hp} (m : Same H H') : ∀ (xs : List PV) (vs : List V), Reps g H xs vs → Reps g H' xs vs
  | [], _, h => h
  | x :: xs, _, h => by
    obtain ⟨v, r, e, h1, h2⟩ := h
    exact ⟨v, r, e, Rep.mono m x v h1, Reps.mono m xs r h2⟩
end
theorem Reps.length {g : Gm} {H : Hp} : ∀ {xs : List PV} {vs : List V}, Reps g H xs vs → xs.length = vs.length
  | [], _, h => by cases (show _ = [] from h); rfl
  | x :: xs, _, h => by
    obtain ⟨v, r, rfl, _, h2⟩ := h
    simp [Reps.length h2]
theorem Reps.nil {g : Gm} {H : Hp} : Reps g H [] [] := rfl
theorem Reps.cons {g : Gm} {H : Hp} {x : PV} {v : V} {xs : List PV} {vs : List V} (h : Rep g H x v) (r : Reps g H xs vs) : Reps g H (x :: xs) (v :: vs) := ⟨v, vs, rfl, h, r⟩
theorem Reps.append {g : Gm} {H : Hp} : ∀ {xs ys : List PV} {vs ws : List V}, Reps g H xs vs → Reps g H ys ws → Reps g H (xs ++ ys) (vs ++ ws)
  | [], _, _, _, h, k => by cases (show _ = [] from h); exact k
  | x :: xs, ys, _, ws, h, k => by
    obtain ⟨v, r, rfl, h1, h2⟩ := h
    exact ⟨v, r ++ ws, rfl, h1, h2.append k⟩
theorem Reps.get {g : Gm} {H : Hp} : ∀ {xs : List PV} {vs : List V} {i : Nat} {x : PV}, Reps g H xs vs → xs[i]? = some x → ∃ v, vs[i]? = some v ∧ Rep g H x v
  | [], _, _, _, _, e => by simp at e
  | y :: ys, _, 0, x, h, e => by
    obtain ⟨v, r, rfl, h1, _⟩ := h
    simp at e; subst e
    exact ⟨v, rfl, h1⟩
  | y :: ys, _, i + 1, x, h, e => by
    obtain ⟨v, r, rfl, _, h2⟩ := h
    obtain ⟨w, e1, e2⟩ := h2.get (i := i) (x := x) (by simpa using e)
    exact ⟨w, by simpa using e1, e2⟩
theorem Reps.getV {g : Gm} {H : Hp} {xs : List PV} {vs : List V} {i : Nat} {v : V} (h : Reps g H xs vs) (e : vs[i]? = some v) : ∃ x, xs[i]? = some x ∧ Rep g H x v := by
  have l := h.length
  have hi : i < vs.length := (List.getElem?_eq_some_iff.mp e).1
  have hj : i < xs.length := by omega
  obtain ⟨w, e1, r⟩ := h.get (List.getElem?_eq_getElem hj)
  rw [e] at e1; cases e1
  exact ⟨_, List.getElem?_eq_getElem hj, r⟩
theorem Reps.set {g : Gm} {H : Hp} {x : PV} {v : V} (h0 : Rep g H x v) : ∀ {xs : List PV} {vs : List V} (i : Nat), Reps g H xs vs → Reps g H (xs.set i x) (vs.set i v)
  | [], _, i, h => by cases (show _ = [] from h); cases i <;> rfl
  | y :: ys, _, 0, h => by
    obtain ⟨w, r, rfl, _, h2⟩ := h
    exact ⟨v, r, rfl, h0, h2⟩
  | y :: ys, _, i + 1, h => by
    obtain ⟨w, r, rfl, h1, h2⟩ := h
    exact ⟨w, r.set i v, rfl, h1, h2.set h0 i⟩
theorem Reps.take {g : Gm} {H : Hp} : ∀ {xs : List PV} {vs : List V} (n : Nat), Reps g H xs vs → Reps g H (xs.take n) (vs.take n)
  | _, _, 0, _ => rfl
  | [], _, n + 1, h => by cases (show _ = [] from h); rfl
  | x :: xs, _, n + 1, h => by
    obtain ⟨v, r, rfl, h1, h2⟩ := h
    exact ⟨v, r.take n, rfl, h1, h2.take n⟩
theorem Reps.drop {g : Gm} {H : Hp} : ∀ {xs : List PV} {vs : List V} (n : Nat), Reps g H xs vs → Reps g H (xs.drop n) (vs.drop n)
  | _, _, 0, h => h
  | [], _, n + 1, h => by cases (show _ = [] from h); rfl
  | x :: xs, _, n + 1, h => by
    obtain ⟨v, r, rfl, h1, h2⟩ := h
    exact h2.drop n
theorem Reps.reverse {g : Gm} {H : Hp} : ∀ {xs : List PV} {vs : List V}, Reps g H xs vs → Reps g H xs.reverse vs.reverse
  | [], _, h => by cases (show _ = [] from h); rfl
  | x :: xs, _, h => by
    obtain ⟨v, r, rfl, h1, h2⟩ := h
    rw [List.reverse_cons, List.reverse_cons]
    exact h2.reverse.append (Reps.cons h1 Reps.nil)
theorem Reps.flatRep {g : Gm} {H : Hp} {xs : List PV} {vs : List V} (h : Reps g H xs vs) : ∀ k : Nat, Reps g H (List.replicate k xs).flatten (List.replicate k vs).flatten
  | 0 => rfl
  | k + 1 => by
    rw [List.replicate_succ, List.replicate_succ, List.flatten_cons, List.flatten_cons]
    exact h.append (h.flatRep k)

/-! ### slots -/
abbrev Fp := Addr → Prop
def none_ : Fp := fun _ => False
/-- what a slot's content says: w the slot of the frame, P the addresses that it owns -/
def OvR (g : Gm) (G H : Hp) : OV → Option (Option V) → Fp → Prop
  | .emp, _, P => ∀ a, ¬ P a
  | .sh v, w, P => (∀ a, ¬ P a) ∧ ∃ x, w = some (some x) ∧ Rep g G v x
  | .lst xs, w, P => ∃ a vs, w = some (some (.ref a)) ∧ (∀ b, P b ↔ b = a) ∧ H a = some (.lst vs) ∧ Reps g G xs vs
  | .obj c fs, w, P => g.kn c ∧ ∃ a dx vs, w = some (some (.ref a)) ∧ (∀ b, P b ↔ b = a) ∧ H a = some (.ins (g.cl c) dx ((g.fnm c).zip vs)) ∧ Reps g G fs vs
/-- what is read at once: the object itself in H, what it holds in G -/
def PkR (g : Gm) (G H : Hp) : PV → V → Prop
  | .lst xs, x => ∃ a vs, x = .ref a ∧ H a = some (.lst vs) ∧ Reps g G xs vs
  | .ins c fs, x => g.kn c ∧ ∃ a dx vs, x = .ref a ∧ H a = some (.ins (g.cl c) dx ((g.fnm c).zip vs)) ∧ Reps g G fs vs
  | v, x => Rep g G v x

structure Stp (G H : Hp) (A : Fp) (G' H' : Hp) (A' : Fp) : Prop where
  g : Same G G'
  keep : ∀ a o, H a = some o → ¬ A a → H' a = some o
  gnew : ∀ a o, G' a = some o → G a = none → A a ∨ H a = none
  fnew : ∀ a, A' a → A a ∨ H a = none
theorem Stp.refl {G H : Hp} {A : Fp} : Stp G H A G H A := ⟨Same.refl _, fun _ _ h _ => h, fun a o h e => (by rw [e] at h; cases h), fun _ h => .inl h⟩
theorem Stp.trans {G H G1 H1 G2 H2 : Hp} {A A1 A2 : Fp} (x : Stp G H A G1 H1 A1) (y : Stp G1 H1 A1 G2 H2 A2) : Stp G H A G2 H2 A2 := by
  have nn : ∀ a, H1 a = none → A a ∨ H a = none := fun a h => by
    cases e : H a with
    | none => exact .inr rfl
    | some o =>
      refine Classical.byCases (fun k : A a => .inl k) fun k => ?_
      rw [x.keep a o e k] at h; cases h
  refine ⟨x.g.trans y.g, fun a o h n => ?_, fun a o h e => ?_, fun a h => ?_⟩
  · refine y.keep a o (x.keep a o h n) fun k => ?_
    rcases x.fnew a k with z | z
    · exact n z
    · rw [h] at z; cases z
  · cases e1 : G1 a with
    | some o1 => exact x.gnew a o1 e1 e
    | none =>
      rcases y.gnew a o h e1 with z | z
      · exact x.fnew a z
      · exact nn a z
  · rcases y.fnew a h with z | z
    · exact x.fnew a z
    · exact nn a z
theorem Stp.sub {G H G1 H1 : Hp} {A A1 A2 : Fp} (x : Stp G H A G1 H1 A1) (h : ∀ a, A2 a → A1 a) : Stp G H A G1 H1 A2 := ⟨x.g, x.keep, x.gnew, fun a k => x.fnew a (h a k)⟩
theorem Stp.sup {G H G1 H1 : Hp} {A A0 A1 : Fp} (x : Stp G H A0 G1 H1 A1) (h : ∀ a, A0 a → A a) : Stp G H A G1 H1 A1 :=
  ⟨x.g, fun a o e n => x.keep a o e fun k => n (h a k), fun a o e k => (x.gnew a o e k).imp (h a) id, fun a k => (x.fnew a k).imp (h a) id⟩

def Own (F : Nat → Fp) : Fp := fun a => ∃ i, F i a
structure RS (g : Gm) (G H : Hp) (s : S) (σ : L2.St) (F : Nat → Fp) : Prop where
  len : s.length = σ.length
  at_ : ∀ i, i < s.length → OvR g G H (getO s i) σ[i]? (F i)
  dis : ∀ i j a, F i a → F j a → i = j
  fr : ∀ i a, F i a → G a = none
  out : ∀ i a, F i a → i < s.length
  sub : Same G H

section
variable {g : Gm} {G H G' H' : Hp} {A A' P : Fp} {s : S} {σ : L2.St} {F : Nat → Fp} {o : OV} {w : Option (Option V)} {v : PV} {x : V}

theorem OvR.there (h : OvR g G H o w P) {a : Addr} (p : P a) : ∃ u, H a = some u := by
  cases o with
  | emp => exact absurd p (h a)
  | sh v => exact absurd p (h.1 a)
  | lst xs =>
    obtain ⟨b, vs, _, e, h1, _⟩ := h
    rw [(e a).mp p]; exact ⟨_, h1⟩
  | obj c fs =>
    obtain ⟨kn, b, dx, vs, _, e, h1, _⟩ := h
    rw [(e a).mp p]; exact ⟨_, h1⟩
theorem OvR.frame (h : OvR g G H o w P) (m : Same G G') (k : ∀ a u, P a → H a = some u → H' a = some u) : OvR g G' H' o w P := by
  cases o with
  | emp => exact h
  | sh v =>
    obtain ⟨n, x, e, r⟩ := h
    exact ⟨n, x, e, Rep.mono m _ _ r⟩
  | lst xs =>
    obtain ⟨b, vs, e0, e, h1, r⟩ := h
    exact ⟨b, vs, e0, e, k b _ ((e b).mpr rfl) h1, Reps.mono m _ _ r⟩
  | obj c fs =>
    obtain ⟨kn, b, dx, vs, e0, e, h1, r⟩ := h
    exact ⟨kn, b, dx, vs, e0, e, k b _ ((e b).mpr rfl) h1, Reps.mono m _ _ r⟩
theorem OvR.stp (h : OvR g G H o w P) (t : Stp G H A G' H' A') (n : ∀ a, P a → ¬ A a) : OvR g G' H' o w P := h.frame t.g fun a u p e => t.keep a u e (n a p)
theorem OvR.free (h : OvR g G H o w P) (t : Stp G H A G' H' A') (n : ∀ a, P a → ¬ A a) {a : Addr} (p : P a) (e : G a = none) : G' a = none := by
  obtain ⟨u, hu⟩ := h.there p
  cases q : G' a with
  | none => rfl
  | some o =>
    rcases t.gnew a o q e with z | z
    · exact absurd z (n a p)
    · rw [hu] at z; cases z
theorem PkR.of (m : Same G H) : ∀ {v : PV}, Rep g G v x → PkR g G H v x
  | .non, h => h
  | .bl _, h => h
  | .int _, h => h
  | .str _, h => h
  | .tup _, h => h
  | .frz _, h => h
  | .lst _, h => by
    obtain ⟨a, vs, e, h1, r⟩ := h
    exact ⟨a, vs, e, m _ _ h1, r⟩
  | .ins _ _, h => by
    obtain ⟨kn, a, dx, vs, e, h1, r⟩ := h
    exact ⟨kn, a, dx, vs, e, m _ _ h1, r⟩
/-- a slot that is read -/
theorem OvR.view (m : Same G H) (h : OvR g G H o w P) (e : o.pv = some v) : ∃ x, w = some (some x) ∧ PkR g G H v x := by
  cases o with
  | emp => cases e
  | sh v =>
    cases e
    obtain ⟨_, x, e, r⟩ := h
    exact ⟨x, e, PkR.of m r⟩
  | lst xs =>
    cases e
    obtain ⟨b, vs, e0, _, h1, r⟩ := h
    exact ⟨_, e0, b, vs, rfl, h1, r⟩
  | obj c fs =>
    cases e
    obtain ⟨kn, b, dx, vs, e0, _, h1, r⟩ := h
    exact ⟨_, e0, kn, b, dx, vs, rfl, h1, r⟩
theorem PkR.rep (m : Same G H) (h : PkR g G H v x) : Rep g H v x := by
  cases v with
  | lst xs =>
    obtain ⟨a, vs, e, h1, r⟩ := h
    exact ⟨a, vs, e, h1, Reps.mono m _ _ r⟩
  | ins c fs =>
    obtain ⟨kn, a, dx, vs, e, h1, r⟩ := h
    exact ⟨kn, a, dx, vs, e, h1, Reps.mono m _ _ r⟩
  | _ => exact Rep.mono m _ _ h

/-! freezing -/
open Classical in
noncomputable def frzG (G H : Hp) (P : Fp) : Hp := fun a => if P a then H a else G a
theorem frzG_in (p : P a) : frzG G H P a = H a := by unfold frzG; rw [if_pos p]
theorem frzG_out (p : ¬ P a) : frzG G H P a = G a := by unfold frzG; rw [if_neg p]
theorem frzG_sub (n : ∀ a, P a → G a = none) : Same G (frzG G H P) := fun a u e => by
  by_cases p : P a
  · rw [n a p] at e; cases e
  · rw [frzG_out p]; exact e
theorem frzG_le (m : Same G H) : Same (frzG G H P) H := fun a u e => by
  by_cases p : P a
  · rw [frzG_in p] at e; exact e
  · rw [frzG_out p] at e; exact m a u e
theorem OvR.frozen (h : OvR g G H o w P) (n : ∀ a, P a → G a = none) (e : o.pv = some v) : ∃ x, w = some (some x) ∧ Rep g (frzG G H P) v x := by
  have m := frzG_sub (H := H) n
  cases o with
  | emp => cases e
  | sh v =>
    cases e
    obtain ⟨_, x, e, r⟩ := h
    exact ⟨x, e, Rep.mono m _ _ r⟩
  | lst xs =>
    cases e
    obtain ⟨b, vs, e0, e1, h1, r⟩ := h
    exact ⟨_, e0, b, vs, rfl, by rw [frzG_in ((e1 b).mpr rfl)]; exact h1, Reps.mono m _ _ r⟩
  | obj c fs =>
    cases e
    obtain ⟨kn, b, dx, vs, e0, e1, h1, r⟩ := h
    exact ⟨_, e0, kn, b, dx, vs, rfl, by rw [frzG_in ((e1 b).mpr rfl)]; exact h1, Reps.mono m _ _ r⟩
theorem Stp.frz (p : ∀ a, P a → A a) (n : ∀ a, P a → G a = none) : Stp G H A (frzG G H P) H (fun a => A a ∧ ¬ P a) :=
  ⟨frzG_sub n, fun _ _ h _ => h, fun a u e h => (by
    by_cases q : P a
    · exact .inl (p a q)
    · rw [frzG_out q, h] at e; cases e), fun a h => .inl h.1⟩

theorem RS.no (R : RS g G H s σ F) {a : Addr} (h : Own F a) : ∃ u, H a = some u := by
  obtain ⟨i, p⟩ := h
  exact (R.at_ i (R.out i a p)).there p
theorem RS.free (R : RS g G H s σ F) {a : Addr} (h : Own F a) : G a = none := by
  obtain ⟨i, p⟩ := h
  exact R.fr i a p
/-- the state is carried over a step that leaves its own objects -/
theorem RS.stp (R : RS g G H s σ F) (t : Stp G H A G' H' A') (n : ∀ a, Own F a → ¬ A a) (m : Same G' H') : RS g G' H' s σ F where
  len := R.len
  at_ := fun i hi => (R.at_ i hi).stp t fun a p => n a ⟨i, p⟩
  dis := R.dis
  fr := fun i a p => (R.at_ i (R.out i a p)).free t (fun b q => n b ⟨i, q⟩) p (R.fr i a p)
  out := R.out
  sub := m
/-- other objects frozen -/
theorem RS.frz (R : RS g G H s σ F) (n : ∀ a, P a → G a = none ∧ ¬ Own F a) : RS g (frzG G H P) H s σ F where
  len := R.len
  at_ := fun i hi => (R.at_ i hi).frame (frzG_sub fun a p => (n a p).1) fun _ _ _ e => e
  dis := R.dis
  fr := fun i a p => by rw [frzG_out fun q => (n a q).2 ⟨i, p⟩]; exact R.fr i a p
  out := R.out
  sub := frzG_le R.sub
theorem getO_set {i j : Nat} (hi : i < s.length) : getO (s.set i o) j = if j = i then o else getO s j := by
  unfold getO
  by_cases e : j = i
  · subst e; simp [List.getD, hi]
  · simp [List.getD, List.getElem?_set_ne (Ne.symm e), e]
theorem getO_out {i : Nat} (h : s.length ≤ i) : getO s i = .emp := by
  unfold getO; simp [List.getD, h]
def updF (F : Nat → Fp) (i : Nat) (P : Fp) : Nat → Fp := fun j => if j = i then P else F j
theorem updF_same {i : Nat} : updF F i P i = P := by unfold updF; rw [if_pos rfl]
theorem updF_ne {i j : Nat} (h : j ≠ i) : updF F i P j = F j := by unfold updF; rw [if_neg h]
theorem own_updF {i : Nat} {a : Addr} (h : Own (updF F i P) a) : P a ∨ ∃ j, j ≠ i ∧ F j a := by
  obtain ⟨j, p⟩ := h
  by_cases e : j = i
  · subst e; rw [updF_same] at p; exact .inl p
  · rw [updF_ne e] at p; exact .inr ⟨j, e, p⟩
/-- a slot's content is replaced, the frame's slot too -/
theorem RS.put {i : Nat} {σ' : L2.St} (R : RS g G H s σ F) (hi : i < s.length) (h : OvR g G H o σ'[i]? P) (hl : σ'.length = σ.length) (hσ : ∀ j, j ≠ i → σ'[j]? = σ[j]?) (n : ∀ a, P a → G a = none ∧ ∀ j, j ≠ i → ¬ F j a) :
    RS g G H (s.set i o) σ' (updF F i P) where
  len := by rw [List.length_set, R.len, hl]
  at_ := fun j hj => by
    rw [List.length_set] at hj
    rw [getO_set hi]
    by_cases e : j = i
    · subst e; rw [if_pos rfl, updF_same]; exact h
    · rw [if_neg e, updF_ne e, hσ j e]; exact R.at_ j hj
  dis := fun j k a p q => by
    by_cases e : j = i
    · by_cases e2 : k = i
      · rw [e, e2]
      · subst e
        rw [updF_same] at p
        rw [updF_ne e2] at q
        exact absurd q ((n a p).2 k e2)
    · rw [updF_ne e] at p
      by_cases e2 : k = i
      · subst e2
        rw [updF_same] at q
        exact absurd p ((n a q).2 j e)
      · rw [updF_ne e2] at q
        exact R.dis j k a p q
  fr := fun j a p => by
    by_cases e : j = i
    · subst e; rw [updF_same] at p; exact (n a p).1
    · rw [updF_ne e] at p; exact R.fr j a p
  out := fun j a p => by
    rw [List.length_set]
    by_cases e : j = i
    · rw [e]; exact hi
    · rw [updF_ne e] at p; exact R.out j a p
  sub := R.sub
/-- the content alone -/
theorem RS.put0 {i : Nat} (R : RS g G H s σ F) (hi : i < s.length) (h : OvR g G H o σ[i]? P) (n : ∀ a, P a → G a = none ∧ ∀ j, j ≠ i → ¬ F j a) : RS g G H (s.set i o) σ (updF F i P) :=
  R.put hi h rfl (fun _ _ => rfl) n
/-- a slot's own object is frozen -/
theorem RS.freeze {i : Nat} (R : RS g G H s σ F) (hi : i < s.length) (e : (getO s i).pv = some v) : RS g (frzG G H (F i)) H (s.set i (.sh v)) σ (updF F i none_) := by
  obtain ⟨x, e1, r⟩ := (R.at_ i hi).frozen (fun a p => R.fr i a p) e
  have n : ∀ a, F i a → G a = none := fun a p => R.fr i a p
  have R1 : RS g G H (s.set i .emp) σ (updF F i none_) := R.put0 hi (show OvR g G H .emp _ none_ from fun _ z => z) fun a p => p.elim
  have R2 := R1.frz (P := F i) fun a p => ⟨n a p, fun ⟨j, q⟩ => by
    by_cases z : j = i
    · subst z; rw [updF_same] at q; exact q
    · rw [updF_ne z] at q; exact z (R.dis j i a q p)⟩
  have hi2 : i < (s.set i .emp).length := by rw [List.length_set]; exact hi
  have R3 := R2.put0 (i := i) (o := .sh v) (P := none_) hi2 ⟨fun _ z => z, x, e1, r⟩ fun a p => p.elim
  have e2 : ((s.set i .emp).set i (.sh v)) = s.set i (.sh v) := by rw [List.set_set]
  have e3 : updF (updF F i none_) i none_ = updF F i none_ := by
    funext j
    by_cases z : j = i
    · subst z; rw [updF_same, updF_same]
    · rw [updF_ne z]
  rw [e2, e3] at R3
  exact R3
theorem Own.put {i : Nat} {a : Addr} (h : Own (updF F i none_) a) : Own F a := by
  rcases own_updF h with z | ⟨j, _, p⟩
  · exact z.elim
  · exact ⟨j, p⟩
/-- a new object -/
theorem RS.new (R : RS g G H s σ F) {p : Addr} {u : HO} (h : H p = none) : RS g G (upd H p u) s σ F := by
  have k : ∀ a v, H a = some v → upd H p u a = some v := fun a v e => by rw [upd_ne (L2.ne_of_none e h)]; exact e
  exact ⟨R.len, fun i hi => (R.at_ i hi).frame (Same.refl _) fun a v _ e => k a v e, R.dis, R.fr, R.out, fun a v e => k a v (R.sub a v e)⟩
theorem Stp.new {p : Addr} {u : HO} (h : H p = none) : Stp G H A G (upd H p u) (fun a => a = p ∨ A a) :=
  ⟨Same.refl _, fun a v e _ => (by rw [upd_ne (L2.ne_of_none e h)]; exact e), fun a u e k => (by rw [k] at e; cases e), fun a k => (by
    rcases k with rfl | k
    · exact .inr h
    · exact .inl k)⟩
/-- a new object that is frozen at once -/
theorem RS.newG (R : RS g G H s σ F) {p : Addr} {u : HO} (h : H p = none) : RS g (upd G p u) (upd H p u) s σ F := by
  have hG : G p = none := by
    cases e : G p with
    | none => rfl
    | some o => rw [R.sub p o e] at h; cases h
  have k : ∀ a v, H a = some v → upd H p u a = some v := fun a v e => by rw [upd_ne (L2.ne_of_none e h)]; exact e
  have kG : Same G (upd G p u) := fun a v e => by rw [upd_ne (L2.ne_of_none e hG)]; exact e
  refine ⟨R.len, fun i hi => (R.at_ i hi).frame kG fun a v _ e => k a v e, R.dis, fun i a q => ?_, R.out, fun a v e => ?_⟩
  · obtain ⟨v, hv⟩ := R.no ⟨i, q⟩
    rw [upd_ne (L2.ne_of_none hv h)]
    exact R.fr i a q
  · by_cases z : a = p
    · subst z; rw [upd_same] at e ⊢; exact e
    · rw [upd_ne z] at e ⊢; exact R.sub a v e
theorem Stp.newG {p : Addr} {u : HO} (m : Same G H) (h : H p = none) : Stp G H A (upd G p u) (upd H p u) A := by
  have hG : G p = none := by
    cases e : G p with
    | none => rfl
    | some o => rw [m p o e] at h; cases h
  refine ⟨fun a v e => by rw [upd_ne (L2.ne_of_none e hG)]; exact e, fun a v e _ => by rw [upd_ne (L2.ne_of_none e h)]; exact e, fun a v e k => ?_, fun a k => .inl k⟩
  by_cases z : a = p
  · rw [z]; exact .inr h
  · rw [upd_ne z, k] at e; cases e
end
end PF
set_option Elab.async false
set_option linter.all false
set_option maxRecDepth 100000
set_option maxHeartbeats 4000000
/-! PF, part z: a tuple once. -/
namespace PF
open PySem PySem.Spec PyProof.Rows
open AutoSeq1 (wpAny_loadPart')
theorem tup_once (l : Addr) (its : Array Value) (n : Nat) (dd : Option Addr) (sl : Array (Option Value)) (u : Tok) :
    Meets (Builtin.«tuple.__mul__» ⟨[.ref l, .int 1 u], []⟩) (fun _ R s => s.heap.get? l = some { cls := .type "tuple", dict := dd, data := .seq its n, slots := sl } ∧ R (.ok (.ret (Value.ref l))) s) :=
  .of_wp fun prog w A R s h => by
    obtain ⟨hp, g, d, tk, os⟩ := s
    obtain ⟨hl, h⟩ := h
    have f1 := AutoSeq1.idx_int
    wp_walk using wpAny_loadPart' hl
    repeat (first
      | (refine wpAny_ite_true (decide_eq_true (by simp)) ?_; wp_walk using wpAny_loadPart' hl)
      | (refine wpAny_ite_false (decide_eq_false (by decide)) ?_; wp_walk using wpAny_loadPart' hl))
    exact ⟨_, rfl, h⟩
open L2 (V Hp HO VK OpR RelV SqT)
theorem op_rep1 {X : L2.Cx} : OpR X (binaryOp .Mult) (fun x y H Q => ∃ l xs, x = .ref l ∧ y = .int 1 ∧ SqT X.K H l xs ∧ Q (.ref l) H) := by
  intro pins s σ H x y v u Q I rx ry h
  obtain ⟨l, xs, rfl, rfl, hT, q⟩ := h
  cases rx
  obtain ⟨t, rfl⟩ := ry
  obtain ⟨its, r, hIs, hs⟩ := I.tuple hT
  have hIs0 := hIs
  obtain ⟨o, ho, hc, n, hd⟩ := hIs
  obtain ⟨cls, dd, data, sl⟩ := o
  have hc : cls = .type "tuple" := hc
  have hd : data = .seq its.toArray n := hd
  subst hc
  subst hd
  exact wpAny_binaryOp_repeat_ref (T := "tuple") (U := "int") (by decide) ⟨_, ho, rfl⟩ (fun s' => typeIs_int s' 1 t) L2.noFill_tuple_mul F.fills_int_mul F.slot_int_rmul L2.repeat_tuple F.slot_int_index.lookup
    (call_meets F.slot_int_rmul (typeIs_int s 1 t) F.entry_int_rmul (F.args_int_rmul_2 _ _) (L2.int_rmul_tuple 1 t l its.toArray n dd sl) ⟨ho, rfl, ⟨_, ho, rfl⟩, call_meets F.slot_tuple_mul ⟨_, ho, rfl⟩ F.entry_tuple_mul (F.args_tuple_mul_2 _ _) (tup_once l its.toArray n dd sl t) ⟨ho, ⟨.ref l, H, I, rfl, q⟩⟩⟩)
/-! ### a tuple from its end -/
section
variable {prog : Program} {w : World} {A : Around} {E : Value → Shared → Prop} {s : Shared}
theorem places_back (n : Nat) : Builtin.Slice.slicePlaces ((n : Int) - 1) (-1) (-1) = n := by
  unfold Builtin.Slice.slicePlaces
  rw [if_neg (by decide)]
  by_cases h : n = 0
  · subst h; rfl
  · rw [if_pos (by omega)]
    simp only [Int.neg_neg, Int.ediv_one]
    omega
theorem applied_back {sl : Addr} {vl vu vs : Value} {n : Nat} {Q : Int × Int × Nat → Shared → Prop} (hs : s.heap.IsSliceOf sl vl vu vs) (pl : IsPart vl none) (pu : IsPart vu none) (ps : IsPart vs (some (-1)))
    (h : Q ((n : Int) - 1, -1, n) s) : wpAny (model prog w) A (Builtin.Slice.sliceApplied (.ref sl) (pure (n : Int))) Q E s := by
  obtain ⟨os, hos, hcs, hds⟩ := id hs
  unfold Builtin.Slice.sliceApplied Builtin.Slice.sliceFields
  refine wpAny_bind (wpAny_bind (wpAny_field hos hds (x := vl) rfl (wpAny_bind (wpAny_field hos hds (x := vu) rfl (wpAny_bind (wpAny_field hos hds (x := vs) rfl (wpAny_pure ?_)))))))
  refine wpAny_bind (HT.slicePart_ ps ?_)
  show wpAny _ _ (if ((-1 : Int) == 0) = true then _ else _) _ _ s
  rw [if_neg (by decide)]
  refine wpAny_bind (HT.slicePart_ pl (wpAny_bind (HT.slicePart_ pu (wpAny_bind (wpAny_pure ?_)))))
  show wpAny _ _ (pure ((n : Int) - 1, (-1 : Int), Builtin.Slice.slicePlaces ((n : Int) - 1) (-1) (-1))) _ _ s
  rw [places_back]
  exact wpAny_pure h
theorem all_at {α : Type} (l : List α) : (List.range l.length).filterMap (fun k => l[k]?) = l := by
  induction l with
  | nil => rfl
  | cons a l ih =>
    rw [List.length_cons, List.range_succ_eq_map, List.filterMap_cons, List.filterMap_map]
    show a :: _ = _
    congr 1
theorem fm_congr {α β : Type} {f g : α → Option β} : ∀ (l : List α), (∀ x, x ∈ l → f x = g x) → l.filterMap f = l.filterMap g
  | [], _ => rfl
  | a :: l, h => by
    rw [List.filterMap_cons, List.filterMap_cons, h a List.mem_cons_self, fm_congr l fun x hx => h x (List.mem_cons_of_mem _ hx)]
theorem pick_back (xs : Array Value) : ((List.range xs.size).filterMap fun (k : Nat) => xs[(((xs.size : Nat) : Int) - 1 + (k : Int) * (-1)).toNat]?) = xs.toList.reverse := by
  have e := all_at xs.toList.reverse
  rw [List.length_reverse, Array.length_toList] at e
  rw [← e]
  refine fm_congr _ fun k hk => ?_
  have hk : k < xs.size := List.mem_range.mp hk
  rw [List.getElem?_reverse (by simpa using hk)]
  have q : (((xs.size : Nat) : Int) - 1 + (k : Int) * (-1)).toNat = xs.size - 1 - k := by omega
  rw [q]
  simp
theorem item_back {t sl : Addr} {items : Array Value} {vl vu vs : Value} {Q : Value → Shared → Prop} (ht : IsTup s.heap t items) (hs : s.heap.IsSliceOf sl vl vu vs) (pl : IsPart vl none) (pu : IsPart vu none) (ps : IsPart vs (some (-1)))
    (h : Q (.ref s.heap.objs.size) { s with heap := s.heap.push { cls := .type "tuple", data := .seq items.toList.reverse.toArray } })
    (hsz : items.size ≤ sizeLine) : wpAny (model prog w) A (getItem (.ref t) (.ref sl)) Q E s := by
  have hok : sizeOk (.seq items.toList.reverse.toArray) := by
    show items.toList.reverse.toArray.size ≤ sizeLine
    simpa using hsz
  obtain ⟨os, hos, hcs, hds⟩ := id hs
  have hTs : s.TypeIs (.ref sl) "slice" := ⟨os, hos, hcs⟩
  unfold getItem
  try with_reducible refine wpAny_holding ?_
  first | refine wpAny_bind (wpAny_pure ?_) | skip
  refine wpAny_bind (wpAny_sequenceKey ht.typeIs (by decide) ?_)
  refine wpAny_bind (wpAny_callSpecial?_slot (name := Str.ofString "__getitem__") ht.typeIs PyProof.Rows.slot_tuple_getitem
    (wpAny_call_entry PyProof.Rows.slot_tuple_getitem ht.typeIs PyProof.Rows.entry_tuple_getitem ?_ (PyProof.Rows.args_tuple_getitem _ _)))
  show wpAny _ _ (Builtin.Tuple.tupleItemsOf (.ref t) >>= _) _ _ s
  refine wpAny_bind (tupleItemsOf_ ht ?_)
  refine wpAny_bind (wpAny_typeOf hTs ?_)
  rw [if_pos (by decide)]
  refine wpAny_bind (applied_back hs pl pu ps ?_)
  have hno : ¬ ((((items.size : Nat) : Int) - 1 == 0 && (-1 : Int) == 1 && items.size == items.size) = true) := by
    intro q
    rw [Bool.and_eq_true, Bool.and_eq_true] at q
    exact absurd (eq_of_beq q.1.2) (by decide)
  show wpAny _ _ (if (((items.size : Nat) : Int) - 1 == 0 && (-1 : Int) == 1 && items.size == items.size) = true then _ else _) _ _ s
  rw [if_neg hno, pick_back]
  first
    | exact wpAny_bind (m := Builtin.Tuple.tupleExact _) (wpAny_newObj_type (wpAny_pure ⟨_, rfl, wpAny_pure h⟩) hok)
    | exact wpAny_bind (m := Builtin.Tuple.tupleExact _) (wpAny_newObj_type (wpAny_bind (wpAny_pure (wpAny_pure ⟨_, rfl, wpAny_pure h⟩))) hok)
    | exact wpAny_bind (wpAny_bind (m := Builtin.Tuple.tupleExact _) (wpAny_newObj_type (wpAny_pure (wpAny_pure ⟨_, rfl, wpAny_pure h⟩)) hok))
    | exact wpAny_bind (wpAny_bind (m := Builtin.Tuple.tupleExact _) (wpAny_newObj_type (wpAny_pure ⟨_, rfl, wpAny_pure h⟩) hok))
end
open L2 (SqL upd PE)
def tBack (K : PySem.W.Frag) (te : L2.TE) : L2.TE := fun σ H Q => te σ H fun x H1 => ∃ a xs, x = .ref a ∧ ((SqL K H1 a xs ∧ ∀ p, H1 p = none → Q (.ref p) (upd H1 p (.lst xs.reverse))) ∨ (SqT K H1 a xs ∧ ∀ p, H1 p = none → Q (.ref p) (upd H1 p (.tup xs.reverse))))
theorem pe_back {X : L2.Cx} {e : Expr} {te : L2.TE} {k : Nat} {p1 p2 p3 pos : Pos} (he : PE X e te) : PE X (.Subscript e (.Slice none none (some (.UnaryOp .USub (.Constant (.int 1) k p1) p2)) p3) pos) (tBack X.K te) := by
  refine ⟨fun pins s σ H Q I h => ?_⟩
  refine Subscript_ (L2.thn (he.run pins s σ H _ I h) fun v s1 ⟨x, H1, I1, r1, q1⟩ => ?_)
  obtain ⟨a, xs, ex, hx⟩ := q1
  subst ex
  cases r1
  have hst : L2.PO X (some (.UnaryOp .USub (.Constant (.int 1) k p1) p2)) (L2.tPart (L2.tUn (L2.rU fun i => .int (-i)) (L2.tC (.int 1)))) := L2.po_some (L2.pe_un L2.un_neg L2.pe_int)
  refine wpAny_Slice (L2.thn (L2.po_none.run pins s1 σ H1 (fun o H2 => o = none ∧ H2 = H1) I1 ⟨rfl, rfl⟩) fun vl s2 ⟨l, H2, I2, pl, el, e2⟩ => ?_)
  subst el e2
  refine L2.thn (L2.po_none.run pins s2 σ H2 (fun o H3 => o = none ∧ H3 = H2) I2 ⟨rfl, rfl⟩) fun vu s3 ⟨u, H3, I3, pu, eu, e3⟩ => ?_
  subst eu e3
  refine L2.thn (hst.run pins s3 σ H3 (fun o H4 => o = some (-1) ∧ H4 = H3) I3 ⟨1, rfl, -1, rfl, rfl, rfl⟩) fun vs s4 ⟨o, H4, I4, ps, eo, e4⟩ => ?_
  subst eo e4
  have I5 : L2.Inv X pins σ H4 { s4 with heap := s4.heap.push { cls := .type "slice", data := .fields #[vl, vu, vs] } } := I4.kept (t' := s4.toks) fun b ob q => Heap.get?_push_of_some _ q
  show wpAny (model X.prog X.w) X.A (subscriptTail e (.Slice none none (some (.UnaryOp .USub (.Constant (.int 1) k p1) p2)) p3) (.ref a) (.ref s4.heap.objs.size)) (L2.EP X pins σ Q) X.xe { s4 with heap := s4.heap.push { cls := .type "slice", data := .fields #[vl, vu, vs] } }
  rcases hx with ⟨hx, q⟩ | ⟨hx, q⟩
  · obtain ⟨its, r, ht, hz⟩ := I5.list hx
    have hlen := r.length
    refine tail_any (ops := [.ref a, .ref s4.heap.objs.size]) ht.isList.typeIs (PySem.slot_list_getitem.lookup) ?_ (by with_unfolding_all rfl)
    refine wpAny_getItem_list_slice ht.isList (Heap.IsSliceOf.new _ vl vu vs) pl pu ps (by decide) ?_ (by rw [List.size_toArray]; omega)
    rw [PySem.W.krv_pick]
    refine ⟨.ref _, _, I5.laid (t' := s4.toks) (o := .lst xs.reverse) (fun b ob q => Heap.get?_push_of_some _ q) (Nat.le_refl _) ?_, rfl, q _ (I5.hok.fresh (Nat.le_refl _))⟩
    exact ⟨by rw [List.length_reverse]; exact hz, _, 0, r.reverse, Heap.get?_push_size _ rfl⟩
  · obtain ⟨its, r, ht, hz⟩ := I5.tuple hx
    have hlen := r.length
    refine tail_any (ops := [.ref a, .ref s4.heap.objs.size]) ht.typeIs PyProof.Rows.slot_tuple_getitem.lookup ?_ (by with_unfolding_all rfl)
    refine item_back ht (Heap.IsSliceOf.new _ vl vu vs) pl pu ps ?_ (by rw [List.size_toArray]; omega)
    refine ⟨.ref _, _, I5.laid (t' := s4.toks) (o := .tup xs.reverse) (fun b ob q => Heap.get?_push_of_some _ q) (Nat.le_refl _) ?_, rfl, q _ (I5.hok.fresh (Nat.le_refl _))⟩
    exact ⟨by rw [List.length_reverse]; exact hz, _, r.reverse, IsTup.new _ _⟩
end PF
set_option Elab.async false
set_option linter.all false
set_option maxRecDepth 100000
/-! PF, part c: readings; operations. -/
namespace PF
open PySem PySem.Spec PyProof.Rows
open L2 (V Hp HO upd upd_same upd_ne Same SqL SqT WX PE PT PA PC OpR CallR IxR SlR MtR TruR VK)

/-- an exception's fields -/
def XR (g : Gm) (G : Hp) (e : PExc) (d : Addr) : Prop := ∃ vs, G d = some (.xd ((g.xfn e.c).zip vs)) ∧ Reps g G e.fs vs
abbrev RL (α β : Type) := L2.St → S → Hp → Hp → α → β → Fp → Prop
def Post (g : Gm) (W : WX) (σ : L2.St) (G H : Hp) (A : Fp) {α β : Type} (Rl : RL α β) (Q : β → Hp → Prop) : Res α → Prop
  | .ok a s => ∀ G' H' F' P b, Stp G H A G' H' (fun c => P c ∨ Own F' c) → RS g G' H' s σ F' → (∀ c, P c → G' c = none ∧ ¬ Own F' c) → Rl σ s G' H' a b P → Q b H'
  | .exc e s => ∀ G' H' F' d, Stp G H A G' H' (Own F') → RS g G' H' s σ F' → XR g G' e d → W (.ref (g.xcl e.c)) (some d) σ H'
  | .bad => False
def T (g : Gm) (W : WX) {α β : Type} (Rl : RL α β) (f : S → Res α) : L2.St → Hp → (β → Hp → Prop) → Prop := fun σ H Q => ∃ G s F, RS g G H s σ F ∧ Post g W σ G H (Own F) Rl Q (f s)

def RlO (g : Gm) : RL OV V := fun _ _ G H o x P => OvR g G H o (some (some x)) P
def RlV (g : Gm) : RL PV V := fun _ _ G H v x P => (∀ a, ¬ P a) ∧ Rep g G v x
def RlP (g : Gm) : RL PV V := fun _ _ G H v x P => (∀ a, ¬ P a) ∧ PkR g G H v x
def RlB : RL Bool Bool := fun _ _ _ _ b c P => (∀ a, ¬ P a) ∧ b = c
def RlVs (g : Gm) : RL (List PV) (List V) := fun _ _ G H v x P => (∀ a, ¬ P a) ∧ Reps g G v x
def RlI : RL (Option Int) (Option Int) := fun _ _ _ _ b c P => (∀ a, ¬ P a) ∧ b = c

section
variable {g : Gm} {W : WX} {σ : L2.St} {G H G1 H1 : Hp} {A A1 : Fp} {α β γ δ : Type} {Rl : RL α β} {Rl2 : RL γ δ} {Q : β → Hp → Prop} {s : S} {F : Nat → Fp}
theorem Post.stp {r : Res α} (t : Stp G H A G1 H1 A1) (h : Post g W σ G H A Rl Q r) : Post g W σ G1 H1 A1 Rl Q r := by
  cases r with
  | ok a s => exact fun G' H' F' P b k => h G' H' F' P b (t.trans k)
  | exc e s => exact fun G' H' F' d k => h G' H' F' d (t.trans k)
  | bad => exact h
theorem Post.sup {r : Res α} (k : ∀ a, A1 a → A a) (h : Post g W σ G H A Rl Q r) : Post g W σ G H A1 Rl Q r := by
  cases r with
  | ok a s => exact fun G' H' F' P b t => h G' H' F' P b (t.sup k)
  | exc e s => exact fun G' H' F' d t => h G' H' F' d (t.sup k)
  | bad => exact h
/-- a result, then what follows -/
theorem Post.bind {Q : δ → Hp → Prop} {r : Res α} {k : α → S → Res γ} (h : Post g W σ G H A Rl2 Q (r.bind k)) :
    Post g W σ G H A Rl (fun b H1 => ∃ G1 s1 F1 a P, Stp G H A G1 H1 (fun c => P c ∨ Own F1 c) ∧ RS g G1 H1 s1 σ F1 ∧ (∀ c, P c → G1 c = none ∧ ¬ Own F1 c) ∧ Rl σ s1 G1 H1 a b P ∧ Post g W σ G1 H1 (fun c => P c ∨ Own F1 c) Rl2 Q (k a s1)) r := by
  cases r with
  | ok a s1 => exact fun G' H' F' P b t R d q => ⟨G', s1, F', a, P, t, R, d, q, Post.stp t h⟩
  | exc e s => exact h
  | bad => exact h
theorem Post.opt {o : Option α} (h : Post g W σ G H A Rl Q (Res.opt o s)) : ∃ a, o = some a ∧ Post g W σ G H A Rl Q (.ok a s) := by
  cases o with
  | none => exact h.elim
  | some a => exact ⟨a, rfl, h⟩
/-- the result is at hand already -/
theorem Post.here {a : α} {b : β} (R : RS g G H s σ F) (h : Post g W σ G H (Own F) Rl Q (.ok a s)) (q : Rl σ s G H a b none_) : Q b H :=
  h G H F none_ b (Stp.refl.sub fun c z => z.elim (fun z => z.elim) id) R (fun _ z => z.elim) q
/-- a value is frozen -/
theorem Post.frz {r : Res OV} {Q : VK} (h : Post g W σ G H A (RlV g) Q (frzR r)) : Post g W σ G H A (RlO g) Q r := by
  cases r with
  | ok o s1 =>
    obtain ⟨v, e, h⟩ := Post.opt (o := o.pv) (s := s1) h
    intro G' H' F' P x t R d q
    have nP : ∀ a, P a → G' a = none := fun a p => (d a p).1
    obtain ⟨y, e2, r⟩ := OvR.frozen q nP e
    cases e2
    refine h (frzG G' H' P) H' F' none_ x ?_ (R.frz d) (fun _ z => z.elim) ⟨fun _ z => z, r⟩
    refine t.trans ((Stp.frz (A := fun c => P c ∨ Own F' c) (fun a p => .inl p) nP).sub fun a z => ?_)
    rcases z with z | z
    · exact z.elim
    · exact ⟨.inr z, fun p => (d a p).2 z⟩
  | exc e s => exact h
  | bad => exact h
theorem Post.valR {r : Res PV} {Q : VK} (h : Post g W σ G H A (RlO g) Q (valR r)) : Post g W σ G H A (RlV g) Q r := by
  cases r with
  | ok v s1 => exact fun G' H' F' P x t R d q => h G' H' F' P x t R d ⟨q.1, x, rfl, q.2⟩
  | exc e s => exact h
  | bad => exact h
theorem Post.boolR {r : Res Bool} {Q : VK} (h : Post g W σ G H A (RlO g) Q (boolR r)) : Post g W σ G H A RlB (fun b H' => Q (.bl b) H') r := by
  cases r with
  | ok v s1 => exact fun G' H' F' P x t R d q => h G' H' F' P (.bl x) t R d ⟨q.1, .bl x, rfl, by rw [q.2]; exact rfl⟩
  | exc e s => exact h
  | bad => exact h
theorem Post.imp {r : Res α} {Q Q' : β → Hp → Prop} (h : Post g W σ G H A Rl Q r) (k : ∀ b H, Q b H → Q' b H) : Post g W σ G H A Rl Q' r := by
  cases r with
  | ok a s => exact fun G' H' F' P b t R d q => k _ _ (h G' H' F' P b t R d q)
  | exc e s => exact h
  | bad => exact h

/-- where the first result owns nothing -/
theorem own_or {P : Fp} (n : ∀ a, ¬ P a) : ∀ a, Own F a → (P a ∨ Own F a) := fun _ => .inr
theorem Stp.own {P : Fp} {F1 : Nat → Fp} (t : Stp G H A G1 H1 (fun c => P c ∨ Own F1 c)) : Stp G H A G1 H1 (Own F1) := t.sub fun _ => .inr

/-! ### what comes out of an operation -/
def Out (g : Gm) (G H : Hp) (ov : OV) (Q : VK) : Prop := ∀ G' H' P z, Stp G H none_ G' H' P → Same G' H' → (∀ a, P a → G' a = none) → OvR g G' H' ov (some (some z)) P → Q z H'
theorem Post.out {Q : VK} {ov : OV} (R : RS g G H s σ F) (h : Post g W σ G H (Own F) (RlO g) Q (.ok ov s)) : Out g G H ov Q := by
  intro G' H' P z t m d q
  refine h G' H' F P z ?_ (R.stp t (fun _ _ k => k) m) (fun c p => ⟨d c p, fun k => ?_⟩) q
  · exact ⟨t.g, fun a o e _ => t.keep a o e fun k => k, fun a o e k => (t.gnew a o e k).elim (fun k => k.elim) .inr, fun a k => by
      rcases k with k | k
      · exact (t.fnew a k).elim (fun k => k.elim) .inr
      · exact .inl k⟩
  · obtain ⟨u, hu⟩ := R.no k
    rcases t.fnew c p with z | z
    · exact z
    · rw [hu] at z; cases z
theorem Out.sh {Q : VK} {v : PV} {x : V} (m : Same G H) (h : Out g G H (.sh v) Q) (r : Rep g G v x) : Q x H := h G H none_ x Stp.refl m (fun _ z => z.elim) ⟨fun _ z => z, x, rfl, r⟩
theorem Out.lst {Q : VK} {xs : List PV} {vs : List V} {p : Addr} (m : Same G H) (h : Out g G H (.lst xs) Q) (r : Reps g G xs vs) (n : H p = none) : Q (.ref p) (upd H p (.lst vs)) := by
  have hG : G p = none := m.free n
  refine h G (upd H p (.lst vs)) (fun a => a = p) (.ref p) ((Stp.new n).sub fun a e => .inl e) ?_ (fun a e => by rw [e]; exact hG) ⟨p, vs, rfl, fun _ => Iff.rfl, upd_same, r⟩
  exact fun a v e => by rw [upd_ne (L2.ne_of_none (m a v e) n)]; exact m a v e
theorem same_newG {p : Addr} {u : HO} (m : Same G H) (n : H p = none) : Same (upd G p u) (upd H p u) := fun a v e => by
  by_cases z : a = p
  · subst z; rw [upd_same] at e ⊢; exact e
  · rw [upd_ne z] at e ⊢; exact m a v e
theorem same_upd {p : Addr} {u : HO} (n : G p = none) : Same G (upd G p u) := fun a v e => by rw [upd_ne (L2.ne_of_none e n)]; exact e
theorem Out.tup {Q : VK} {xs : List PV} {vs : List V} {p : Addr} (m : Same G H) (h : Out g G H (.sh (.tup xs)) Q) (r : Reps g G xs vs) (n : H p = none) : Q (.ref p) (upd H p (.tup vs)) := by
  have hG : G p = none := m.free n
  refine h (upd G p (.tup vs)) (upd H p (.tup vs)) none_ (.ref p) (Stp.newG m n) (same_newG m n) (fun _ z => z.elim) ⟨fun _ z => z, .ref p, rfl, p, vs, rfl, .inl (.inl upd_same), Reps.mono (same_upd hG) _ _ r⟩
end


/-! ### operators -/
theorem big_eq : big = sizeLine := by unfold big; rw [sizeLine_eq]
section
variable {g : Gm} {X : L2.Cx} {G H : Hp}
theorem imp_op {f : Value → Value → Sem Value} {r r' : L2.R2} (h : OpR X f r) (k : ∀ x y H Q, r' x y H Q → r x y H Q) : OpR X f r' := fun pins s σ H x y v u Q I rx ry q => h pins s σ H x y v u Q I rx ry (k _ _ _ _ q)
theorem imp_call {f : Value} {r r' : List V → Hp → VK → Prop} (h : CallR X f r) (k : ∀ xs H Q, r' xs H Q → r xs H Q) : CallR X f r' := fun pins s σ H xs us Q I rx q => h pins s σ H xs us Q I rx (k _ _ _ q)
theorem rep_int {i : Int} : Rep g G (.int i) (.int i) := rfl
theorem rep_bl {i : Bool} : Rep g G (.bl i) (.bl i) := rfl
theorem sqL_lst {a : Addr} {vs : List V} (m : Same G H) (h : H a = some (.lst vs)) : SqL g.K H a vs := .inl (.inl h)
/-- a list of either kind that is read -/
theorem pk_items {v : PV} {x : V} {xs : List PV} (m : Same G H) (h : PkR g G H v x) (e : items v = some xs) : ∃ a vs, x = .ref a ∧ (SqL g.K H a vs ∨ SqT g.K H a vs) ∧ Reps g G xs vs := by
  cases v with
  | lst ys =>
    cases e
    obtain ⟨a, vs, e0, h1, r⟩ := h
    exact ⟨a, vs, e0, .inl (.inl (.inl h1)), r⟩
  | tup ys =>
    cases e
    obtain ⟨a, vs, e0, h1, r⟩ := h
    exact ⟨a, vs, e0, .inr (sqT_mono m h1), r⟩
  | frz ys =>
    cases e
    obtain ⟨a, vs, e0, h1, r⟩ := h
    exact ⟨a, vs, e0, .inl (m.seq h1), r⟩
  | _ => cases e

def rBin (g : Gm) (o : BOp) : L2.R2 := fun x y H Q => ∃ G v w ov, Same G H ∧ PkR g G H v x ∧ PkR g G H w y ∧ binop o v w = some ov ∧ Out g G H ov Q
theorem op_bin (hK : X.K = g.K) {o : BOp} {op : Operator} (h : opB o op = true) : OpR X (binaryOp op) (rBin g o) := by
  cases o <;> cases op <;> first | (exact absurd (show false = true from h) Bool.false_ne_true) | skip
  · -- add
    refine imp_op (L2.op_add.or (L2.op_cat.or L2.op_catA)) fun x y H Q hr => ?_
    obtain ⟨G, v, w, ov, m, hv, hw, e, q⟩ := hr
    have e : bAdd v w = some ov := e
    unfold bAdd at e
    split at e
    · cases e
      exact .inl ⟨_, _, hv, hw, q.sh m rep_int⟩
    · split at e
      · cases e
        rename_i a b hl
        obtain ⟨p, vs, rfl, h1, r1⟩ := hv
        obtain ⟨p2, ws, rfl, h2, r2⟩ := hw
        refine .inr (.inl ⟨p, p2, vs, ws, rfl, rfl, h1, h2, ?_, fun z n => q.lst m (r1.append r2) n⟩)
        rw [← r1.length, ← r2.length, ← big_eq]; exact hl
      · cases e
    · split at e
      · cases e
        rename_i a b hl
        obtain ⟨p, vs, rfl, h1, r1⟩ := hv
        obtain ⟨p2, ws, rfl, h2, r2⟩ := hw
        refine .inr (.inr ⟨p, p2, vs, ws, rfl, rfl, by rw [hK]; exact sqT_mono m h1, by rw [hK]; exact sqT_mono m h2, ?_, fun e => ?_, fun _ e => ?_, fun _ _ z n => ?_⟩)
        · rw [← r1.length, ← r2.length, ← big_eq]; exact hl
        · subst e
          have ea : a = [] := List.eq_nil_of_length_eq_zero r1.length
          subst ea
          exact q.sh m ⟨p2, ws, rfl, h2, r2⟩
        · subst e
          have ea : b = [] := List.eq_nil_of_length_eq_zero r2.length
          subst ea
          exact q.sh m ⟨p, vs, rfl, h1, by rw [List.append_nil]; exact r1⟩
        · exact q.tup m (r1.append r2) n
      · cases e
    · cases e
  · refine imp_op L2.op_sub fun x y H Q hr => ?_
    obtain ⟨G, v, w, ov, m, hv, hw, e, q⟩ := hr
    have e : bSub v w = some ov := e
    unfold bSub at e
    split at e
    · cases e
      exact ⟨_, _, hv, hw, q.sh m rep_int⟩
    · cases e
  · refine imp_op (L2.op_mul.or (L2.op_rep.or (L2.op_repT.or op_rep1))) fun x y H Q hr => ?_
    obtain ⟨G, v, w, ov, m, hv, hw, e, q⟩ := hr
    have e : bMul v w = some ov := e
    unfold bMul at e
    split at e
    · split at e
      · cases e
        rename_i hl
        exact .inl ⟨_, _, hv, hw, hl, q.sh m rep_int⟩
      · cases e
    · split at e
      · cases e
        rename_i a k hl
        obtain ⟨p, vs, rfl, h1, r1⟩ := hv
        cases (show y = .int k from hw)
        exact .inr (.inl ⟨p, k, vs, rfl, rfl, h1, hl.1, hl.2.1, by rw [← r1.length, ← big_eq]; exact hl.2.2, fun z n => q.lst m (r1.flatRep _) n⟩)
      · cases e
    · split at e
      · rename_i a k hl
        cases e
        subst hl
        obtain ⟨p, vs, rfl, h1, r1⟩ := hv
        cases (show y = .int 1 from hw)
        exact .inr (.inr (.inr ⟨p, vs, rfl, rfl, by rw [hK]; exact sqT_mono m h1, q.sh m ⟨p, vs, rfl, h1, r1⟩⟩))
      · split at e
        · rename_i a k _ _ hl
          cases e
          obtain ⟨p, vs, rfl, h1, r1⟩ := hv
          cases (show y = .int k from hw)
          refine .inr (.inr (.inl ⟨p, k, vs, rfl, rfl, by rw [hK]; exact sqT_mono m h1, fun z => ?_, hl.1, hl.2.1, by rw [← r1.length]; exact hl.2.2.2, fun z n => q.tup m (r1.flatRep _) n⟩))
          subst z
          have e : a = [] := List.eq_nil_of_length_eq_zero r1.length
          subst e
          cases hl.2.2.1
        · cases e
    · cases e
  · refine imp_op L2.op_mod fun x y H Q hr => ?_
    obtain ⟨G, v, w, ov, m, hv, hw, e, q⟩ := hr
    have e : bMod v w = some ov := e
    unfold bMod at e
    split at e
    · split at e
      · cases e
        rename_i hl
        exact ⟨_, _, hv, hw, hl, q.sh m rep_int⟩
      · cases e
    · cases e
  · refine imp_op L2.op_fdiv fun x y H Q hr => ?_
    obtain ⟨G, v, w, ov, m, hv, hw, e, q⟩ := hr
    have e : bDiv v w = some ov := e
    unfold bDiv at e
    split at e
    · split at e
      · cases e
        rename_i hl
        exact ⟨_, _, hv, hw, hl, q.sh m rep_int⟩
      · cases e
    · cases e
  · refine imp_op L2.op_pow fun x y H Q hr => ?_
    obtain ⟨G, v, w, ov, m, hv, hw, e, q⟩ := hr
    have e : bPow v w = some ov := e
    unfold bPow at e
    split at e
    · split at e
      · cases e
        rename_i hl
        exact ⟨_, _, hv, hw, hl, q.sh m rep_int⟩
      · cases e
    · cases e

/-! ### comparisons -/
mutual
/-- a tree as data -/
def pdat : PV → PyData
  | .non => .none
  | .bl b => .bool b
  | .int i => .int i
  | .str s => .str (mkS s)
  | .tup xs => .tuple (pdats xs)
  | .lst xs => .list (pdats xs)
  | .frz xs => .list (pdats xs)
  | .ins _ _ => .none
def pdats : List PV → List PyData
  | [] => []
  | x :: xs => pdat x :: pdats xs
end
theorem mkS_inj {a b : Tx} (h : mkS a = mkS b) : a = b := by
  have e := congrArg (fun z : Str => z.cps.toList) h
  simpa [mkS] using e
theorem mkS_beq (a b : Tx) : (mkS a == mkS b) = (a == b) := by
  by_cases h : a = b
  · subst h; simp
  · have h2 : ¬ mkS a = mkS b := fun e => h (mkS_inj e)
    rw [beq_eq_false_iff_ne.mpr h, beq_eq_false_iff_ne.mpr h2]
mutual
theorem peq_eqv : ∀ (n k : Nat) (a b : PV), eqOk n a = true → eqOk k b = true → peq a b = PyData.eqv (pdat a) (pdat b)
  | n, k, .tup xs, .tup ys, h1, h2 => by
    cases n with
    | zero => cases h1
    | succ n =>
      cases k with
      | zero => cases h2
      | succ k => exact peqs_eqv n k xs ys h1 h2
  | n, k, .lst xs, .lst ys, h1, h2 => by
    cases n with
    | zero => cases h1
    | succ n =>
      cases k with
      | zero => cases h2
      | succ k => exact peqs_eqv n k xs ys h1 h2
  | _, _, .str a, .str b, _, _ => (mkS_beq a b).symm
  | n, _, .frz _, _, h1, _ => by cases n <;> cases h1
  | n, _, .ins _ _, _, h1, _ => by cases n <;> cases h1
  | _, k, .non, .frz _, _, h2 => by cases k <;> cases h2
  | _, k, .non, .ins _ _, _, h2 => by cases k <;> cases h2
  | _, k, .bl _, .frz _, _, h2 => by cases k <;> cases h2
  | _, k, .bl _, .ins _ _, _, h2 => by cases k <;> cases h2
  | _, k, .int _, .frz _, _, h2 => by cases k <;> cases h2
  | _, k, .int _, .ins _ _, _, h2 => by cases k <;> cases h2
  | _, k, .str _, .frz _, _, h2 => by cases k <;> cases h2
  | _, k, .str _, .ins _ _, _, h2 => by cases k <;> cases h2
  | _, k, .tup _, .frz _, _, h2 => by cases k <;> cases h2
  | _, k, .tup _, .ins _ _, _, h2 => by cases k <;> cases h2
  | _, k, .lst _, .frz _, _, h2 => by cases k <;> cases h2
  | _, k, .lst _, .ins _ _, _, h2 => by cases k <;> cases h2
  | _, _, .non, .non, _, _ => rfl
  | _, _, .non, .bl _, _, _ => rfl
  | _, _, .non, .int _, _, _ => rfl
  | _, _, .non, .str _, _, _ => rfl
  | _, _, .non, .tup _, _, _ => rfl
  | _, _, .non, .lst _, _, _ => rfl
  | _, _, .bl _, .non, _, _ => rfl
  | _, _, .bl _, .bl _, _, _ => rfl
  | _, _, .bl _, .int _, _, _ => rfl
  | _, _, .bl _, .str _, _, _ => rfl
  | _, _, .bl _, .tup _, _, _ => rfl
  | _, _, .bl _, .lst _, _, _ => rfl
  | _, _, .int _, .non, _, _ => rfl
  | _, _, .int _, .bl _, _, _ => rfl
  | _, _, .int _, .int _, _, _ => rfl
  | _, _, .int _, .str _, _, _ => rfl
  | _, _, .int _, .tup _, _, _ => rfl
  | _, _, .int _, .lst _, _, _ => rfl
  | _, _, .str _, .non, _, _ => rfl
  | _, _, .str _, .bl _, _, _ => rfl
  | _, _, .str _, .int _, _, _ => rfl
  | _, _, .str _, .tup _, _, _ => rfl
  | _, _, .str _, .lst _, _, _ => rfl
  | _, _, .tup _, .non, _, _ => rfl
  | _, _, .tup _, .bl _, _, _ => rfl
  | _, _, .tup _, .int _, _, _ => rfl
  | _, _, .tup _, .str _, _, _ => rfl
  | _, _, .tup _, .lst _, _, _ => rfl
  | _, _, .lst _, .non, _, _ => rfl
  | _, _, .lst _, .bl _, _, _ => rfl
  | _, _, .lst _, .int _, _, _ => rfl
  | _, _, .lst _, .str _, _, _ => rfl
  | _, _, .lst _, .tup _, _, _ => rfl
theorem peqs_eqv : ∀ (n k : Nat) (a b : List PV), eqOks n a = true → eqOks k b = true → peqs a b = PyData.eqvAll (pdats a) (pdats b)
  | _, _, [], [], _, _ => rfl
  | _, _, [], _ :: _, _, _ => rfl
  | _, _, _ :: _, [], _, _ => rfl
  | n, k, x :: xs, y :: ys, h1, h2 => by
    have h1 : (eqOk n x && eqOks n xs) = true := h1
    have h2 : (eqOk k y && eqOks k ys) = true := h2
    rw [Bool.and_eq_true] at h1 h2
    show (peq x y && peqs xs ys) = (PyData.eqv (pdat x) (pdat y) && PyData.eqvAll (pdats xs) (pdats ys))
    rw [peq_eqv n k x y h1.1 h2.1, peqs_eqv n k xs ys h1.2 h2.2]
end
mutual
theorem eqOk_lay : ∀ (n : Nat) (a : PV), eqOk n a = true → (pdat a).canLay0 = true ∧ (pdat a).depth ≤ n
  | n, .non, _ => ⟨rfl, Nat.zero_le _⟩
  | n, .bl _, _ => ⟨rfl, Nat.zero_le _⟩
  | n, .int _, _ => ⟨rfl, Nat.zero_le _⟩
  | n, .str s, h => by
    have h : strOkT s = true := by cases n <;> exact h
    refine ⟨?_, Nat.zero_le _⟩
    show PyData.strOk (mkS s) = true
    unfold PyData.strOk mkS
    unfold strOkT at h
    simpa using h
  | 0, .tup _, h => by cases h
  | 0, .lst _, h => by cases h
  | n + 1, .tup xs, h => by
    obtain ⟨h1, h2⟩ := eqOks_lay n xs h
    exact ⟨h1, Nat.succ_le_succ h2⟩
  | n + 1, .lst xs, h => by
    obtain ⟨h1, h2⟩ := eqOks_lay n xs h
    exact ⟨h1, Nat.succ_le_succ h2⟩
  | n, .frz _, h => by cases n <;> cases h
  | n, .ins _ _, h => by cases n <;> cases h
theorem eqOks_lay : ∀ (n : Nat) (a : List PV), eqOks n a = true → PyData.canLayAll0 (pdats a) = true ∧ PyData.depthAll (pdats a) ≤ n
  | n, [], _ => ⟨rfl, Nat.zero_le _⟩
  | n, x :: xs, h => by
    have h : (eqOk n x && eqOks n xs) = true := h
    rw [Bool.and_eq_true] at h
    obtain ⟨h1, h2⟩ := eqOk_lay n x h.1
    obtain ⟨h3, h4⟩ := eqOks_lay n xs h.2
    refine ⟨?_, ?_⟩
    · show ((pdat x).canLay0 && PyData.canLayAll0 (pdats xs)) = true
      rw [h1, h3]; rfl
    · show max _ _ ≤ n
      exact Nat.max_le.mpr ⟨h2, h4⟩
end
theorem eqOk_shaped {a : PV} (h : eqOk 16 a = true) : SeqAt.shaped (pdat a) = true := by
  obtain ⟨h1, h2⟩ := eqOk_lay 16 a h
  unfold SeqAt.shaped
  rw [h1, decide_eq_true (Nat.le_trans h2 (by decide))]; rfl
mutual
theorem rep_dp : ∀ (n : Nat) (a : PV) (x : V), eqOk n a = true → Rep g H a x → L2.Dp g.K H x (pdat a)
  | _, .non, _, _, h => by cases (show _ = V.non from h); exact .non
  | _, .bl b, _, _, h => by cases (show _ = V.bl b from h); exact .bl b
  | _, .int i, _, _, h => by cases (show _ = V.int i from h); exact .int i
  | _, .str s, _, _, h => by cases (show _ = V.str (mkS s) from h); exact .str _
  | n, .tup xs, _, h0, h => by
    obtain ⟨a, vs, rfl, h1, r⟩ := h
    cases n with
    | zero => cases h0
    | succ n => exact .tup h1 (reps_dp n xs vs h0 r)
  | n, .lst xs, _, h0, h => by
    obtain ⟨a, vs, rfl, h1, r⟩ := h
    cases n with
    | zero => cases h0
    | succ n => exact .lst (.inl (.inl h1)) (reps_dp n xs vs h0 r)
  | n, .frz _, _, h0, _ => by cases n <;> cases h0
  | n, .ins _ _, _, h0, _ => by cases n <;> cases h0
theorem reps_dp : ∀ (n : Nat) (a : List PV) (x : List V), eqOks n a = true → Reps g H a x → L2.DpAll g.K H x (pdats a)
  | _, [], _, _, h => by cases (show _ = [] from h); exact .nil
  | n, a :: as, _, h0, h => by
    obtain ⟨v, r, rfl, h1, h2⟩ := h
    have h0 : (eqOk n a && eqOks n as) = true := h0
    rw [Bool.and_eq_true] at h0
    exact .cons (rep_dp n a v h0.1 h1) (reps_dp n as r h0.2 h2)
end
def rCmp (g : Gm) (o : COp) : L2.R2 := fun x y H Q => ∃ G v w k, Same G H ∧ PkR g G H v x ∧ PkR g G H w y ∧ cmpop o v w = some k ∧ Q (.bl k) H
theorem cLt_some {v w : PV} {k : Bool} (h : cLt v w = some k) : ∃ a b, v = .int a ∧ w = .int b ∧ k = decide (a < b) := by
  unfold cLt at h
  split at h
  · cases h; exact ⟨_, _, rfl, rfl, rfl⟩
  · cases h
theorem cLe_some {v w : PV} {k : Bool} (h : cLe v w = some k) : ∃ a b, v = .int a ∧ w = .int b ∧ k = decide (a ≤ b) := by
  unfold cLe at h
  split at h
  · cases h; exact ⟨_, _, rfl, rfl, rfl⟩
  · cases h
theorem op_cmp (hK : X.K = g.K) (hu : X.A.units + 64 < cLine) {o : COp} {op : CmpOp} (h : opC o op = true) : OpR X (compareOp op) (rCmp g o) := by
  cases o <;> cases op <;> first | (exact absurd (show false = true from h) Bool.false_ne_true) | skip
  · refine imp_op (L2.op_eqD hu) fun x y H Q hr => ?_
    obtain ⟨G, v, w, k, m, hv, hw, e, q⟩ := hr
    have e : (if (eqOk 16 v && eqOk 16 w) = true then some (peq v w) else none) = some k := e
    split at e
    · rename_i hk
      rw [Bool.and_eq_true] at hk
      cases e
      refine ⟨pdat v, pdat w, ?_, ?_, eqOk_shaped hk.1, eqOk_shaped hk.2, ?_⟩
      · rw [hK]; exact rep_dp 16 v x hk.1 (hv.rep m)
      · rw [hK]; exact rep_dp 16 w y hk.2 (hw.rep m)
      · rw [← peq_eqv 16 16 v w hk.1 hk.2]; exact q
    · cases e
  · refine imp_op (L2.op_neD hu) fun x y H Q hr => ?_
    obtain ⟨G, v, w, k, m, hv, hw, e, q⟩ := hr
    have e : (if (eqOk 16 v && eqOk 16 w) = true then some (!peq v w) else none) = some k := e
    split at e
    · rename_i hk
      rw [Bool.and_eq_true] at hk
      cases e
      refine ⟨pdat v, pdat w, ?_, ?_, eqOk_shaped hk.1, eqOk_shaped hk.2, ?_⟩
      · rw [hK]; exact rep_dp 16 v x hk.1 (hv.rep m)
      · rw [hK]; exact rep_dp 16 w y hk.2 (hw.rep m)
      · rw [← peq_eqv 16 16 v w hk.1 hk.2]; exact q
    · cases e
  · refine imp_op L2.op_lt fun x y H Q hr => ?_
    obtain ⟨G, v, w, k, m, hv, hw, e, q⟩ := hr
    obtain ⟨a, b, rfl, rfl, rfl⟩ := cLt_some e
    exact ⟨_, _, hv, hw, q⟩
  · refine imp_op L2.op_le fun x y H Q hr => ?_
    obtain ⟨G, v, w, k, m, hv, hw, e, q⟩ := hr
    obtain ⟨a, b, rfl, rfl, rfl⟩ := cLe_some e
    exact ⟨_, _, hv, hw, q⟩
  · refine imp_op L2.op_gt fun x y H Q hr => ?_
    obtain ⟨G, v, w, k, m, hv, hw, e, q⟩ := hr
    obtain ⟨a, b, rfl, rfl, rfl⟩ := cLt_some e
    exact ⟨_, _, hv, hw, q⟩
  · refine imp_op L2.op_ge fun x y H Q hr => ?_
    obtain ⟨G, v, w, k, m, hv, hw, e, q⟩ := hr
    obtain ⟨a, b, rfl, rfl, rfl⟩ := cLe_some e
    exact ⟨_, _, hv, hw, q⟩
end
end PF
set_option Elab.async false
set_option linter.all false
set_option maxRecDepth 100000
/-! PF, part d: more operations. -/
namespace PF
open PySem PySem.Spec PyProof.Rows
open L2 (V Hp HO upd upd_same upd_ne Same SqL SqT WX PE PT PA PC OpR CallR IxR SlR MtR TruR VK)
section
variable {g : Gm} {X : L2.Cx} {G H : Hp}
/-! ### in -/
theorem flat_rep {v : PV} {x : V} (h : Rep g G v x) : flatP v = L2.flatV x := by
  cases v with
  | non => cases (show x = _ from h); rfl
  | bl b => cases (show x = _ from h); rfl
  | int b => cases (show x = _ from h); rfl
  | str b => cases (show x = _ from h); rfl
  | tup _ => obtain ⟨a, vs, rfl, _⟩ := h; rfl
  | lst _ => obtain ⟨a, vs, rfl, _⟩ := h; rfl
  | frz _ => obtain ⟨a, vs, rfl, _⟩ := h; rfl
  | ins _ _ => obtain ⟨kn, a, dx, vs, rfl, _⟩ := h; rfl
theorem flats_rep : ∀ {xs : List PV} {vs : List V}, Reps g G xs vs → xs.all flatP = vs.all L2.flatV
  | [], _, h => by cases (show _ = [] from h); rfl
  | x :: xs, _, h => by
    obtain ⟨v, r, rfl, h1, h2⟩ := h
    rw [List.all_cons, List.all_cons, flat_rep h1, flats_rep h2]
theorem eqP_rep {v w : PV} {x y : V} (h : Rep g G v x) (k : Rep g G w y) (f : flatP v = true) (f2 : flatP w = true) : eqP v w = L2.eqV x y := by
  cases v <;> first | (exact absurd (show false = true from f) Bool.false_ne_true) | skip
  all_goals (cases w <;> first | (exact absurd (show false = true from f2) Bool.false_ne_true) | skip)
  all_goals (cases (show x = _ from h); cases (show y = _ from k))
  all_goals first | rfl | exact (mkS_beq _ _).symm
theorem anyEq_rep {x : PV} {v : V} (h : Rep g G x v) (f : flatP x = true) : ∀ {xs : List PV} {vs : List V}, Reps g G xs vs → xs.all flatP = true → (xs.any fun z => eqP z x) = vs.any fun z => L2.eqV z v
  | [], _, r, _ => by cases (show _ = [] from r); rfl
  | y :: ys, _, r, f2 => by
    obtain ⟨w, r, rfl, h1, h2⟩ := r
    rw [List.all_cons, Bool.and_eq_true] at f2
    rw [List.any_cons, List.any_cons, eqP_rep h1 h f2.1 f, anyEq_rep h f h2 f2.2]
def rInn (g : Gm) (ng : Bool) : L2.R2 := fun x y H Q => ∃ G v w k, Same G H ∧ PkR g G H v x ∧ PkR g G H w y ∧ inop v w = some k ∧ Q (.bl (k != ng)) H
theorem pk_flat {v : PV} {x : V} (f : flatP v = true) (h : PkR g G H v x) : Rep g G v x := by
  cases v <;> first | exact h | (exact absurd (show false = true from f) Bool.false_ne_true)
theorem inop_some {v w : PV} {k : Bool} (e : inop v w = some k) : ∃ xs, items w = some xs ∧ flatP v = true ∧ xs.all flatP = true ∧ k = xs.any fun z => eqP z v := by
  unfold inop at e
  split at e
  · split at e
    · rename_i h
      rw [Bool.and_eq_true] at h
      cases e
      exact ⟨_, rfl, h.1, h.2, rfl⟩
    · cases e
  · split at e
    · rename_i h
      rw [Bool.and_eq_true] at h
      cases e
      exact ⟨_, rfl, h.1, h.2, rfl⟩
    · cases e
  · cases e
theorem op_inn (hK : X.K = g.K) {ng : Bool} : OpR X (compareOp (if ng then .NotIn else .In)) (rInn g ng) := by
  cases ng with
  | false =>
    refine imp_op L2.op_in_seq fun x y H Q hr => ?_
    obtain ⟨G, v, w, k, m, hv, hw, e, q⟩ := hr
    obtain ⟨xs, ei, f1, f2, rfl⟩ := inop_some e
    obtain ⟨a, vs, rfl, hs, r⟩ := pk_items m hw ei
    have hv := pk_flat f1 hv
    refine ⟨a, vs, rfl, by rw [hK]; exact hs, by rw [← flat_rep hv]; exact f1, by rw [← flats_rep r]; exact f2, ?_⟩
    have e2 : L2.inV x vs = xs.any fun z => eqP z v := (anyEq_rep hv f1 r f2).symm
    rw [if_neg Bool.false_ne_true, e2]
    simpa using q
  | true =>
    refine imp_op L2.op_notIn_seq fun x y H Q hr => ?_
    obtain ⟨G, v, w, k, m, hv, hw, e, q⟩ := hr
    obtain ⟨xs, ei, f1, f2, rfl⟩ := inop_some e
    obtain ⟨a, vs, rfl, hs, r⟩ := pk_items m hw ei
    have hv := pk_flat f1 hv
    refine ⟨a, vs, rfl, by rw [hK]; exact hs, by rw [← flat_rep hv]; exact f1, by rw [← flats_rep r]; exact f2, ?_⟩
    have e2 : L2.inV x vs = xs.any fun z => eqP z v := (anyEq_rep hv f1 r f2).symm
    rw [if_pos rfl, e2]
    simpa using q

/-! ### items, slices -/
def rIxx (g : Gm) : L2.R2 := fun x y H Q => ∃ G v w z, Same G H ∧ PkR g G H v x ∧ Rep g G w y ∧ index v w = some z ∧ ∀ u, Rep g G z u → Q u H
theorem atI_rep {xs : List PV} {vs : List V} {k : Int} {z : PV} (r : Reps g G xs vs) (e : (ixN xs.length k).bind (fun j => xs[j]?) = some z) : ∃ u, L2.atI vs k = some u ∧ Rep g G z u := by
  cases h : ixN xs.length k with
  | none => rw [h] at e; cases e
  | some j =>
    rw [h] at e
    obtain ⟨u, e1, e2⟩ := r.get (i := j) e
    refine ⟨u, ?_, e2⟩
    show (L2.ixN vs.length k).bind (fun j => vs[j]?) = some u
    rw [← r.length]
    show (ixN xs.length k).bind (fun j => vs[j]?) = some u
    rw [h]; exact e1
theorem index_some {p w z : PV} (e : index p w = some z) : ∃ xs k, items p = some xs ∧ w = .int k ∧ (ixN xs.length k).bind (fun j => xs[j]?) = some z := by
  unfold index at e
  cases h : items p with
  | none => rw [h] at e; cases e
  | some xs =>
    rw [h] at e
    cases w with
    | int k => exact ⟨xs, k, rfl, rfl, e⟩
    | _ => cases e
theorem ix_ok (hK : X.K = g.K) : IxR X (rIxx g) := by
  have b := (L2.ix_list (X := X)).or L2.ix_tup
  intro value slice pins s σ H x y v u Q I rx ry h hs
  refine b value slice pins s σ H x y v u Q I rx ry ?_ hs
  obtain ⟨G, p, w, z, m, hv, hw, e, q⟩ := h
  obtain ⟨xs, k, ei, ew, e9⟩ := index_some e
  subst ew
  cases (show y = .int k from hw)
  obtain ⟨a, vs, rfl, hq, r⟩ := pk_items m hv ei
  obtain ⟨u, e1, e2⟩ := atI_rep r e9
  rcases hq with hq | hq
  · exact .inl ⟨a, vs, k, u, rfl, rfl, by rw [hK]; exact hq, e1, q u e2⟩
  · exact .inr ⟨a, vs, k, u, rfl, rfl, by rw [hK]; exact hq, e1, q u e2⟩
theorem cut_rep {xs : List PV} {vs : List V} (r : Reps g G xs vs) (lo hi : Option Int) : Reps g G (cut xs lo hi) (L2.cutV vs lo hi) := by
  have e : ∀ n d (o : Option Int), HT.sIx n d o = sIx n d o := fun n d o => by cases o <;> rfl
  unfold cut L2.cutV
  rw [e, e, ← r.length]
  exact (r.drop _).take _
def rSll (g : Gm) : V → Option Int → Option Int → Hp → VK → Prop := fun x lo hi H Q => ∃ G v ov, Same G H ∧ PkR g G H v x ∧ slice v lo hi = some ov ∧ Out g G H ov Q
theorem cut_whole {α : Type} {xs : List α} {lo hi : Option Int} (h : sIx xs.length 0 lo = 0 ∧ sIx xs.length xs.length hi = xs.length) : cut xs lo hi = xs := by
  unfold cut
  rw [h.1, h.2]; simp
theorem sl_ok (hK : X.K = g.K) : SlR X (rSll g) := by
  have b := (L2.sl_list (X := X)).or L2.sl_tupA
  intro pins s σ H x v vl vu lo hi sl Q I rx hs pl pu h
  refine b pins s σ H x v vl vu lo hi sl Q I rx hs pl pu ?_
  obtain ⟨G, p, ov, m, hv, e, q⟩ := h
  cases p with
  | lst xs =>
    cases e
    obtain ⟨a, vs, rfl, h1, r⟩ := hv
    exact .inl ⟨a, vs, rfl, .inl (.inl h1), fun z n => q.lst m (cut_rep r lo hi) n⟩
  | frz xs =>
    cases e
    obtain ⟨a, vs, rfl, h1, r⟩ := hv
    exact .inl ⟨a, vs, rfl, by rw [hK]; exact m.seq h1, fun z n => q.lst m (cut_rep r lo hi) n⟩
  | tup xs =>
    cases e
    obtain ⟨a, vs, rfl, h1, r⟩ := hv
    refine .inr ⟨a, vs, rfl, by rw [hK]; exact sqT_mono m h1, fun z => ?_, fun _ z n => q.tup m (cut_rep r lo hi) n⟩
    have e : ∀ n d (o : Option Int), HT.sIx n d o = sIx n d o := fun n d o => by cases o <;> rfl
    rw [e, e, ← r.length] at z
    rw [cut_whole z] at q
    exact q.sh m ⟨a, vs, rfl, h1, r⟩
  | _ => cases e
theorem rev_some {v : PV} {ov : OV} {x : V} (m : Same G H) (hv : PkR g G H v x) (e : reversed v = some ov) : ∃ a vs xs, x = .ref a ∧ Reps g G xs vs ∧ ((SqL g.K H a vs ∧ ov = .lst xs.reverse) ∨ (SqT g.K H a vs ∧ ov = .sh (.tup xs.reverse))) := by
  cases v with
  | lst xs =>
    cases e
    obtain ⟨a, vs, rfl, h1, r⟩ := hv
    exact ⟨a, vs, xs, rfl, r, .inl ⟨.inl (.inl h1), rfl⟩⟩
  | frz xs =>
    cases e
    obtain ⟨a, vs, rfl, h1, r⟩ := hv
    exact ⟨a, vs, xs, rfl, r, .inl ⟨m.seq h1, rfl⟩⟩
  | tup xs =>
    cases e
    obtain ⟨a, vs, rfl, h1, r⟩ := hv
    exact ⟨a, vs, xs, rfl, r, .inr ⟨sqT_mono m h1, rfl⟩⟩
  | _ => cases e

/-! ### built-ins -/
def rBi (g : Gm) (b : Bi) : List V → Hp → VK → Prop := fun xs H Q => ∃ G vs ov, Same G H ∧ ((∃ v x, vs = [v] ∧ xs = [x] ∧ PkR g G H v x) ∨ (vs.length ≠ 1 ∧ Reps g G vs xs)) ∧ bi b vs = some ov ∧ Out g G H ov Q
def biV : Bi → Value
  | .len => .builtin "len" | .abs => .builtin "abs" | .max2 => .builtin "max" | .min2 => .builtin "min" | .tuple => .type "tuple" | .list => .type "list" | .int => .type "int"
  | .all => .builtin "all" | .any => .builtin "any" | .sum => .builtin "sum"
theorem one_of {vs : List PV} {xs : List V} {v : PV} (h : (∃ w x, vs = [w] ∧ xs = [x] ∧ PkR g G H w x) ∨ (vs.length ≠ 1 ∧ Reps g G vs xs)) (e : vs = [v]) : ∃ x, xs = [x] ∧ PkR g G H v x := by
  rcases h with ⟨w, x, e1, e2, h⟩ | ⟨h, _⟩
  · rw [e] at e1; cases e1; exact ⟨x, e2, h⟩
  · rw [e] at h; exact absurd rfl h
theorem two_of {vs : List PV} {xs : List V} {v w : PV} (h : (∃ w x, vs = [w] ∧ xs = [x] ∧ PkR g G H w x) ∨ (vs.length ≠ 1 ∧ Reps g G vs xs)) (e : vs = [v, w]) : ∃ x y, xs = [x, y] ∧ Rep g G v x ∧ Rep g G w y := by
  rcases h with ⟨w, x, e1, _⟩ | ⟨_, h⟩
  · rw [e] at e1; cases e1
  · rw [e] at h
    obtain ⟨x, r, rfl, h1, y, r2, rfl, h2, h3⟩ := h
    cases (show r2 = [] from h3)
    exact ⟨x, y, rfl, h1, h2⟩
theorem toInts_rep : ∀ {xs : List PV} {vs : List V} {ns : List Int}, toInts xs = some ns → Reps g G xs vs → vs = ns.map V.int
  | [], _, _, e, h => by cases e; cases (show _ = [] from h); rfl
  | x :: xs, _, ns, e, h => by
    obtain ⟨v, r, rfl, h1, h2⟩ := h
    cases x with
    | int i =>
      have e : (toInts xs).map (i :: ·) = some ns := e
      cases k : toInts xs with
      | none => rw [k] at e; cases e
      | some ms =>
        rw [k] at e; cases e
        cases (show v = .int i from h1)
        rw [toInts_rep k h2]; rfl
    | _ => cases e
theorem toBls_rep : ∀ {xs : List PV} {vs : List V} {ns : List Bool}, toBls xs = some ns → Reps g G xs vs → vs = ns.map V.bl
  | [], _, _, e, h => by cases e; cases (show _ = [] from h); rfl
  | x :: xs, _, ns, e, h => by
    obtain ⟨v, r, rfl, h1, h2⟩ := h
    cases x with
    | bl i =>
      have e : (toBls xs).map (i :: ·) = some ns := e
      cases k : toBls xs with
      | none => rw [k] at e; cases e
      | some ms =>
        rw [k] at e; cases e
        cases (show v = .bl i from h1)
        rw [toBls_rep k h2]; rfl
    | _ => cases e
theorem mkS_len (s : Tx) : (mkS s).length = s.length := by simp [mkS, Str.length]
theorem bi_one {b : Bi} {vs : List PV} {ov : OV} (e : bi b vs = some ov) (hb : b ≠ .max2 ∧ b ≠ .min2) : ∃ v, vs = [v] := by
  unfold bi at e
  split at e <;> first | exact ⟨_, rfl⟩ | (cases e; done) | exact absurd rfl hb.1 | exact absurd rfl hb.2
theorem call_bi (hK : X.K = g.K) (hc : X.calm = true) (b : Bi) : CallR X (biV b) (rBi g b) := by
  cases b with
  | len =>
    refine imp_call L2.call_len fun xs H Q hr => ?_
    obtain ⟨G, vs, ov, m, hv, e, q⟩ := hr
    obtain ⟨v, rfl⟩ := bi_one e ⟨by decide, by decide⟩
    obtain ⟨x, rfl, hp⟩ := one_of hv rfl
    cases v with
    | str s =>
      have e : (if s.length ≤ big then some (OV.sh (.int s.length)) else none) = some ov := e
      split at e
      · rename_i hl
        cases e
        cases (show x = .str (mkS s) from hp)
        refine ⟨_, s.length, rfl, ⟨?_, (mkS_len s).symm⟩, q.sh m rep_int⟩
        rw [mkS_len, ← big_eq]; exact hl
      · cases e
    | lst ys =>
      cases e
      obtain ⟨a, vs, rfl, h1, r⟩ := hp
      exact ⟨_, ys.length, rfl, .inl ⟨vs, .inl (.inl h1), r.length⟩, q.sh m rep_int⟩
    | tup ys =>
      cases e
      obtain ⟨a, vs, rfl, h1, r⟩ := hp
      exact ⟨_, ys.length, rfl, .inr ⟨vs, by rw [hK]; exact sqT_mono m h1, r.length⟩, q.sh m rep_int⟩
    | frz ys =>
      cases e
      obtain ⟨a, vs, rfl, h1, r⟩ := hp
      exact ⟨_, ys.length, rfl, .inl ⟨vs, by rw [hK]; exact m.seq h1, r.length⟩, q.sh m rep_int⟩
    | _ => cases e
  | abs =>
    refine imp_call L2.call_abs fun xs H Q hr => ?_
    obtain ⟨G, vs, ov, m, hv, e, q⟩ := hr
    obtain ⟨v, rfl⟩ := bi_one e ⟨by decide, by decide⟩
    obtain ⟨x, rfl, hp⟩ := one_of hv rfl
    cases v with
    | int i =>
      cases e
      cases (show x = .int i from hp)
      exact ⟨i, rfl, q.sh m rep_int⟩
    | _ => cases e
  | max2 =>
    refine imp_call (L2.call_max2 hc) fun xs H Q hr => ?_
    obtain ⟨G, vs, ov, m, hv, e, q⟩ := hr
    unfold bi at e
    split at e <;> first | (cases e; done) | skip
    all_goals rename_i h1; first | (cases h1; done) | skip
    cases e
    obtain ⟨x, y, rfl, e1, e2⟩ := two_of hv rfl
    cases (show x = .int _ from e1)
    cases (show y = .int _ from e2)
    exact ⟨_, _, rfl, q.sh m rep_int⟩
  | min2 =>
    refine imp_call (L2.call_min2 hc) fun xs H Q hr => ?_
    obtain ⟨G, vs, ov, m, hv, e, q⟩ := hr
    unfold bi at e
    split at e <;> first | (cases e; done) | skip
    all_goals rename_i h1; first | (cases h1; done) | skip
    cases e
    obtain ⟨x, y, rfl, e1, e2⟩ := two_of hv rfl
    cases (show x = .int _ from e1)
    cases (show y = .int _ from e2)
    exact ⟨_, _, rfl, q.sh m rep_int⟩
  | tuple =>
    refine imp_call L2.call_tuple_of fun xs H Q hr => ?_
    obtain ⟨G, vs, ov, m, hv, e, q⟩ := hr
    obtain ⟨v, rfl⟩ := bi_one e ⟨by decide, by decide⟩
    obtain ⟨x, rfl, hp⟩ := one_of hv rfl
    cases v with
    | tup ys =>
      cases e
      obtain ⟨a, vs, rfl, h1, r⟩ := hp
      exact ⟨a, vs, rfl, .inr ⟨by rw [hK]; exact sqT_mono m h1, q.sh m ⟨a, vs, rfl, h1, r⟩⟩⟩
    | lst ys =>
      cases e
      obtain ⟨a, vs, rfl, h1, r⟩ := hp
      exact ⟨a, vs, rfl, .inl ⟨.inl (.inl h1), fun z n => q.tup m r n⟩⟩
    | frz ys =>
      cases e
      obtain ⟨a, vs, rfl, h1, r⟩ := hp
      exact ⟨a, vs, rfl, .inl ⟨by rw [hK]; exact m.seq h1, fun z n => q.tup m r n⟩⟩
    | _ => cases e
  | list =>
    refine imp_call L2.call_list_of fun xs H Q hr => ?_
    obtain ⟨G, vs, ov, m, hv, e, q⟩ := hr
    obtain ⟨v, rfl⟩ := bi_one e ⟨by decide, by decide⟩
    obtain ⟨x, rfl, hp⟩ := one_of hv rfl
    have e : (items v).map (fun xs => OV.lst xs) = some ov := by
      cases v <;> exact e
    cases k : items v with
    | none => rw [k] at e; cases e
    | some ys =>
      rw [k] at e; cases e
      obtain ⟨a, vs, rfl, hq, r⟩ := pk_items m hp k
      exact ⟨a, vs, rfl, by rw [hK]; exact hq, fun z n => q.lst m r n⟩
  | int =>
    refine imp_call L2.call_int1 fun xs H Q hr => ?_
    obtain ⟨G, vs, ov, m, hv, e, q⟩ := hr
    obtain ⟨v, rfl⟩ := bi_one e ⟨by decide, by decide⟩
    obtain ⟨x, rfl, hp⟩ := one_of hv rfl
    cases v with
    | int i =>
      cases e
      cases (show x = .int i from hp)
      exact .inl ⟨i, rfl, q.sh m rep_int⟩
    | bl i =>
      cases e
      cases (show x = .bl i from hp)
      exact .inr ⟨i, rfl, q.sh m (rep_int (i := b2 i))⟩
    | _ => cases e
  | all =>
    refine imp_call (L2.cr_all hc) fun xs H Q hr => ?_
    obtain ⟨G, vs, ov, m, hv, e, q⟩ := hr
    obtain ⟨v, rfl⟩ := bi_one e ⟨by decide, by decide⟩
    obtain ⟨x, rfl, hp⟩ := one_of hv rfl
    cases v with
    | lst ys =>
      have e : (toBls ys).map (fun bs => OV.sh (.bl (bs.all id))) = some ov := e
      cases k : toBls ys with
      | none => rw [k] at e; cases e
      | some bs =>
        rw [k] at e; cases e
        obtain ⟨a, vs, rfl, h1, r⟩ := hp
        exact ⟨a, bs, rfl, .inl (.inl (by rw [h1, toBls_rep k r])), q.sh m rep_bl⟩
    | _ => cases e
  | any =>
    refine imp_call (L2.cr_any hc) fun xs H Q hr => ?_
    obtain ⟨G, vs, ov, m, hv, e, q⟩ := hr
    obtain ⟨v, rfl⟩ := bi_one e ⟨by decide, by decide⟩
    obtain ⟨x, rfl, hp⟩ := one_of hv rfl
    cases v with
    | lst ys =>
      have e : (toBls ys).map (fun bs => OV.sh (.bl (bs.any id))) = some ov := e
      cases k : toBls ys with
      | none => rw [k] at e; cases e
      | some bs =>
        rw [k] at e; cases e
        obtain ⟨a, vs, rfl, h1, r⟩ := hp
        exact ⟨a, bs, rfl, .inl (.inl (by rw [h1, toBls_rep k r])), q.sh m rep_bl⟩
    | _ => cases e
  | sum =>
    refine imp_call (L2.cr_sum hc) fun xs H Q hr => ?_
    obtain ⟨G, vs, ov, m, hv, e, q⟩ := hr
    obtain ⟨v, rfl⟩ := bi_one e ⟨by decide, by decide⟩
    obtain ⟨x, rfl, hp⟩ := one_of hv rfl
    cases v with
    | lst ys =>
      have e : (toInts ys).map (fun bs => OV.sh (.int bs.sum)) = some ov := e
      cases k : toInts ys with
      | none => rw [k] at e; cases e
      | some bs =>
        rw [k] at e; cases e
        obtain ⟨a, vs, rfl, h1, r⟩ := hp
        exact ⟨a, bs, rfl, .inl (.inl (by rw [h1, toInts_rep k r])), q.sh m rep_int⟩
    | frz ys =>
      have e : (toInts ys).map (fun bs => OV.sh (.int bs.sum)) = some ov := e
      cases k : toInts ys with
      | none => rw [k] at e; cases e
      | some bs =>
        rw [k] at e; cases e
        obtain ⟨a, vs, rfl, h1, r⟩ := hp
        exact ⟨a, bs, rfl, by rw [hK, ← toInts_rep k r]; exact m.seq h1, q.sh m rep_int⟩
    | _ => cases e
end
end PF
set_option Elab.async false
set_option linter.all false
set_option maxRecDepth 100000
/-! PF, part e: the context; what the checker says of a text. -/
namespace PF
open PySem PySem.Spec PyProof.Rows
open L2 (V Hp HO upd upd_same upd_ne Same SqL SqT WX PE PT PA PC OpR CallR IxR SlR MtR TruR VK)

/-- what a def's call promises -/
def SpF (g : Gm) (Γ : Env) (f : Nat) : L2.Sp := fun vs H Q E => ∃ G ovs F, RS g G H ovs (vs.map some) F ∧ Post g (fun cls d _ H' => E cls d H') (vs.map some) G H (Own F) (RlO g) Q (Γ.rho f ovs)
def tyW (g : Gm) : Ty → Value
  | .int => .type "int" | .bool => .type "bool" | .str => .type "str" | .list => .type "list" | .tuple => .type "tuple" | .dict => .type "dict" | .cls c => .ref (g.cl c)
def typV (g : Gm) : PV → Value
  | .non => .type "NoneType" | .bl _ => .type "bool" | .int _ => .type "int" | .str _ => .type "str" | .tup _ => .type "tuple" | .lst _ => .type "list" | .frz _ => .type "list" | .ins c _ => .ref (g.cl c)
/-- its class is known -/
def knV (g : Gm) : PV → Prop
  | .ins c _ => g.kn c
  | _ => True
structure Cxt (g : Gm) (gn : GN) (Γ : Env) (N : List Tx) (k : Nat) (sc : Scope) (W : WX) (X : L2.Cx) : Prop where
  hK : X.K = g.K
  hN : X.N = N.map mkS
  nd : X.N.Nodup
  hsc : X.env.scope = sc
  calm : X.calm = true
  takes : L2.Takes X W
  room : L2.Room k X.A
  glb : ∀ i t v, gn.glb i = some t → Γ.glb i = some v → ∃ u x, X.mg (mkS t) = some u ∧ L2.RelV x u ∧ ∀ G, Rep g G v x
  fn : ∀ f t, gn.fn f = some t → ∃ fa fd ps, X.mg (mkS t) = some (.ref fa) ∧ PySem.W.keepIn X.K (.ref fa) = true ∧ L2.Binds X.K fd ps [] ∧ L2.FnOk X.prog X.w X.K X.mg X.base (L2.CX X.prog X.w) k fa fd ps (SpF g Γ f)
  cls : ∀ c t, gn.cls c = some t → X.mg (mkS t) = some (.ref (g.cl c)) ∧ ∀ v, knV g v → PySem.W.kitOne X.K (typV g v) (.ref (g.cl c)) = some (isTy (.cls c) v)
  ins : ∀ c t, g.kn c → (∀ H a dx fs, H a = some (.ins (g.cl c) dx fs) → L2.TyX X.K H (.ref a) (.ref (g.cl c))) ∧ (t ≠ Ty.cls c → (∀ c', t ≠ .cls c') → PySem.W.kitOne X.K (.ref (g.cl c)) (tyW g t) = some false)
  mgB : ∀ b, X.mg (biS b) = none
  mgT : ∀ t n, tyS t = some n → X.mg n = none
  mgR : X.mg "range" = none ∧ X.mg "enumerate" = none ∧ X.mg "zip" = none ∧ X.mg "isinstance" = none

section
variable {g : Gm} {gn : GN} {Γ : Env} {N : List Tx} {k : Nat} {sc : Scope} {W : WX} {X : L2.Cx} {x : Str} {e : Expr}
theorem isNm_ok {i : Nat} (h : isNm N i x = true) : (N.map mkS)[i]? = some x := by
  unfold isNm at h
  rw [List.getElem?_map]
  cases q : N[i]? with
  | none => rw [q] at h; cases h
  | some t => rw [q] at h; rw [Option.map_some, of_decide_eq_true h]
theorem isO_ok {o : Option Tx} (h : isO o x = true) : ∃ t, o = some t ∧ mkS t = x := by
  unfold isO at h
  cases q : o with
  | none => rw [q] at h; cases h
  | some t => rw [q] at h; exact ⟨t, rfl, of_decide_eq_true h⟩
theorem noDbg_ok (h : noDbg x = true) : (x == ("__debug__" : Str)) = false ∧ (x == ("__classdict__" : Str)) = false := by
  unfold noDbg at h
  simpa using h
theorem visB_ok (h : visB sc x = true) : L2.Vis sc x := by
  unfold visB at h
  split at h
  · exact .inl (by assumption)
  · exact .inr (.inl (by assumption))
  · exact .inr (.inr (by assumption))
  · cases h
theorem locB_ok {f : Str → Bool} (h : locB sc f x = true) : L2.Loc sc x ∧ (f x = true ∨ sc.names.lookup x = some .local) := by
  unfold locB at h
  split at h
  · exact ⟨.inl (by assumption), .inr (by assumption)⟩
  · exact ⟨.inr (by assumption), .inl h⟩
  · cases h
theorem glB_ok (C : Cxt g gn Γ N k sc W X) (h : glB sc x = true) : L2.Gl X x ∧ (x == ("__debug__" : Str)) = false := by
  unfold glB at h
  rw [Bool.and_eq_true] at h
  refine ⟨?_, (noDbg_ok h.2).1⟩
  show X.env.scope.names.lookup x = some .globalImplicit
  rw [C.hsc]; exact of_decide_eq_true h.1

/-! shapes -/
theorem ff {p : Prop} (h : false = true) : p := absurd h Bool.false_ne_true
theorem chk_int {i : Int} (h : chk gn N sc (.int i) e = true) : ∃ n p, e = .Constant (.int i) n p := by
  cases e <;> first | (exact ff h) | skip
  rename_i c n p
  cases c <;> first | (exact ff h) | skip
  rename_i j
  exact ⟨n, p, by rw [of_decide_eq_true (show decide (i = j) = true from h)]⟩
theorem chk_bl {i : Bool} (h : chk gn N sc (.bl i) e = true) : ∃ n p, e = .Constant (.bool i) n p := by
  cases e <;> first | (exact ff h) | skip
  rename_i c n p
  cases c <;> first | (exact ff h) | skip
  rename_i j
  exact ⟨n, p, by rw [beq_iff_eq.mp (show (i == j) = true from h)]⟩
theorem chk_non (h : chk gn N sc .non e = true) : ∃ n p, e = .Constant .none n p := by
  cases e <;> first | (exact ff h) | skip
  rename_i c n p
  cases c <;> first | (exact ff h) | skip
  exact ⟨n, p, rfl⟩
theorem chk_str {t : Tx} (h : chk gn N sc (.str t) e = true) : ∃ n p, e = .Constant (.str (mkS t)) n p := by
  cases e <;> first | (exact ff h) | skip
  rename_i c n p
  cases c <;> first | (exact ff h) | skip
  rename_i j
  exact ⟨n, p, by rw [of_decide_eq_true (show decide (mkS t = j) = true from h)]⟩
theorem chk_var {i : Nat} (h : chk gn N sc (.var i) e = true) : ∃ x p, e = .Name x p ∧ isNm N i x = true ∧ visB sc x = true ∧ noDbg x = true := by
  cases e <;> first | (exact ff h) | skip
  rename_i x p
  have h : (isNm N i x && visB sc x && noDbg x) = true := h
  simp only [Bool.and_eq_true] at h
  exact ⟨x, p, rfl, h.1.1, h.1.2, h.2⟩
theorem chk_glb {i : Nat} (h : chk gn N sc (.glb i) e = true) : ∃ x p, e = .Name x p ∧ isO (gn.glb i) x = true ∧ glB sc x = true := by
  cases e <;> first | (exact ff h) | skip
  rename_i x p
  have h : (isO (gn.glb i) x && glB sc x) = true := h
  simp only [Bool.and_eq_true] at h
  exact ⟨x, p, rfl, h.1, h.2⟩
theorem chk_tup {es : Exs} (h : chk gn N sc (.tup es) e = true) : ∃ l n p, e = .Tuple l n p ∧ l.length ≤ 1000 ∧ chks gn N sc es l = true := by
  cases e <;> first | (exact ff h) | skip
  rename_i l n p
  have h : (decide (l.length ≤ 1000) && chks gn N sc es l) = true := h
  simp only [Bool.and_eq_true, decide_eq_true_eq] at h
  exact ⟨l, n, p, rfl, h.1, h.2⟩
theorem chk_lst {es : Exs} (h : chk gn N sc (.lst es) e = true) : ∃ l p, e = .List l p ∧ l.length ≤ 1000 ∧ chks gn N sc es l = true := by
  cases e <;> first | (exact ff h) | skip
  rename_i l p
  have h : (decide (l.length ≤ 1000) && chks gn N sc es l) = true := h
  simp only [Bool.and_eq_true, decide_eq_true_eq] at h
  exact ⟨l, p, rfl, h.1, h.2⟩
theorem chk_bin {o : BOp} {a b : Ex} (h : chk gn N sc (.bin o a b) e = true) : ∃ l op r p, e = .BinOp l op r p ∧ opB o op = true ∧ chk gn N sc a l = true ∧ chk gn N sc b r = true := by
  cases e <;> first | (exact ff h) | skip
  rename_i l op r p
  have h : (opB o op && chk gn N sc a l && chk gn N sc b r) = true := h
  simp only [Bool.and_eq_true] at h
  exact ⟨l, op, r, p, rfl, h.1.1, h.1.2, h.2⟩
theorem chk_neg {a : Ex} (h : chk gn N sc (.neg a) e = true) : ∃ l p, e = .UnaryOp .USub l p ∧ chk gn N sc a l = true := by
  cases e <;> first | (exact ff h) | skip
  rename_i op l p
  cases op <;> first | (exact ff h) | skip
  exact ⟨l, p, rfl, h⟩
theorem chk_not {a : Ex} (h : chk gn N sc (.not a) e = true) : ∃ l p, e = .UnaryOp .Not l p ∧ chk gn N sc a l = true := by
  cases e <;> first | (exact ff h) | skip
  rename_i op l p
  cases op <;> first | (exact ff h) | skip
  exact ⟨l, p, rfl, h⟩
theorem chk_cmp {o : COp} {a b : Ex} (h : chk gn N sc (.cmp o a b) e = true) : ∃ l op r p, e = .Compare l [op] [r] p ∧ opC o op = true ∧ chk gn N sc a l = true ∧ chk gn N sc b r = true := by
  cases e <;> first | (exact ff h) | skip
  rename_i l ops rs p
  rcases ops with _ | ⟨op, _ | ⟨op2, ops⟩⟩ <;> first | (exact ff h) | skip
  rcases rs with _ | ⟨r, _ | ⟨r2, rs⟩⟩ <;> first | (exact ff h) | skip
  have h : (opC o op && chk gn N sc a l && chk gn N sc b r) = true := h
  simp only [Bool.and_eq_true] at h
  exact ⟨l, op, r, p, rfl, h.1.1, h.1.2, h.2⟩
theorem chk_chn {o q : COp} {a b c : Ex} (h : chk gn N sc (.chn o q a b c) e = true) : ∃ l op op2 m r p, e = .Compare l [op, op2] [m, r] p ∧ opC o op = true ∧ opC q op2 = true ∧ chk gn N sc a l = true ∧ chk gn N sc b m = true ∧ chk gn N sc c r = true := by
  cases e <;> first | (exact ff h) | skip
  rename_i l ops rs p
  rcases ops with _ | ⟨op, _ | ⟨op2, _ | ⟨op3, ops⟩⟩⟩ <;> first | (exact ff h) | skip
  rcases rs with _ | ⟨m, _ | ⟨r, _ | ⟨r3, rs⟩⟩⟩ <;> first | (exact ff h) | skip
  have h : (opC o op && opC q op2 && chk gn N sc a l && chk gn N sc b m && chk gn N sc c r) = true := h
  simp only [Bool.and_eq_true] at h
  exact ⟨l, op, op2, m, r, p, rfl, h.1.1.1.1, h.1.1.1.2, h.1.1.2, h.1.2, h.2⟩
theorem chk_isN {ng : Bool} {a : Ex} (h : chk gn N sc (.isN ng a) e = true) : ∃ l n p2 p, e = .Compare l [if ng then .IsNot else .Is] [.Constant .none n p2] p ∧ chk gn N sc a l = true := by
  cases e <;> first | (exact ff h) | skip
  rename_i l ops rs p
  rcases ops with _ | ⟨op, _ | ⟨op2, ops⟩⟩ <;> first | (exact ff h) | skip
  rcases rs with _ | ⟨r, _ | ⟨r2, rs⟩⟩ <;> first | (exact ff h) | (cases r <;> first | exact ff h | (rename_i c _ _; cases c <;> exact ff h)) | skip
  cases r <;> first | (exact ff h) | skip
  rename_i c n p2
  cases c <;> first | (exact ff h) | skip
  have h : (decide (op = if ng then .IsNot else .Is) && chk gn N sc a l) = true := h
  simp only [Bool.and_eq_true, decide_eq_true_eq] at h
  exact ⟨l, n, p2, p, by rw [h.1], h.2⟩
theorem chk_inn {ng : Bool} {a b : Ex} (h : chk gn N sc (.inn ng a b) e = true) : ∃ l r p, e = .Compare l [if ng then .NotIn else .In] [r] p ∧ behindInMarks (if ng then .NotIn else .In) r = false ∧ chk gn N sc a l = true ∧ chk gn N sc b r = true := by
  cases e <;> first | (exact ff h) | skip
  rename_i l ops rs p
  rcases ops with _ | ⟨op, _ | ⟨op2, ops⟩⟩ <;> first | (exact ff h) | skip
  rcases rs with _ | ⟨r, _ | ⟨r2, rs⟩⟩ <;> first | (exact ff h) | skip
  have h : (decide (op = if ng then .NotIn else .In) && !behindInMarks op r && chk gn N sc a l && chk gn N sc b r) = true := h
  simp only [Bool.and_eq_true, decide_eq_true_eq, Bool.not_eq_true'] at h
  obtain ⟨⟨⟨h1, h2⟩, h3⟩, h4⟩ := h
  subst h1
  exact ⟨l, r, p, rfl, h2, h3, h4⟩
theorem chk_and {a b : Ex} (h : chk gn N sc (.and a b) e = true) : ∃ x y r p, e = .BoolOp .And (x :: y :: r) p ∧ chk gn N sc a x = true ∧ ((r = [] ∧ chk gn N sc b y = true) ∨ (r ≠ [] ∧ chk gn N sc b (.BoolOp .And (y :: r) p) = true)) := by
  cases e <;> first | (exact ff h) | skip
  rename_i op l p
  cases op <;> first | (exact ff h) | skip
  rcases l with _ | ⟨x, _ | ⟨y, r⟩⟩ <;> first | (exact ff h) | skip
  cases r with
  | nil =>
    have h : (chk gn N sc a x && chk gn N sc b y) = true := h
    simp only [Bool.and_eq_true] at h
    exact ⟨x, y, [], p, rfl, h.1, .inl ⟨rfl, h.2⟩⟩
  | cons z r =>
    have h : (chk gn N sc a x && chk gn N sc b (.BoolOp .And (y :: z :: r) p)) = true := h
    simp only [Bool.and_eq_true] at h
    exact ⟨x, y, z :: r, p, rfl, h.1, .inr ⟨List.cons_ne_nil _ _, h.2⟩⟩
theorem chk_or {a b : Ex} (h : chk gn N sc (.or a b) e = true) : ∃ x y r p, e = .BoolOp .Or (x :: y :: r) p ∧ chk gn N sc a x = true ∧ ((r = [] ∧ chk gn N sc b y = true) ∨ (r ≠ [] ∧ chk gn N sc b (.BoolOp .Or (y :: r) p) = true)) := by
  cases e <;> first | (exact ff h) | skip
  rename_i op l p
  cases op <;> first | (exact ff h) | skip
  rcases l with _ | ⟨x, _ | ⟨y, r⟩⟩ <;> first | (exact ff h) | skip
  cases r with
  | nil =>
    have h : (chk gn N sc a x && chk gn N sc b y) = true := h
    simp only [Bool.and_eq_true] at h
    exact ⟨x, y, [], p, rfl, h.1, .inl ⟨rfl, h.2⟩⟩
  | cons z r =>
    have h : (chk gn N sc a x && chk gn N sc b (.BoolOp .Or (y :: z :: r) p)) = true := h
    simp only [Bool.and_eq_true] at h
    exact ⟨x, y, z :: r, p, rfl, h.1, .inr ⟨List.cons_ne_nil _ _, h.2⟩⟩
theorem chk_ite {a b c : Ex} (h : chk gn N sc (.ite c a b) e = true) : ∃ t x y p, e = .IfExp t x y p ∧ chk gn N sc c t = true ∧ chk gn N sc a x = true ∧ chk gn N sc b y = true := by
  cases e <;> first | (exact ff h) | skip
  rename_i t x y p
  have h : (chk gn N sc c t && chk gn N sc a x && chk gn N sc b y) = true := h
  simp only [Bool.and_eq_true] at h
  exact ⟨t, x, y, p, rfl, h.1.1, h.1.2, h.2⟩
theorem chk_ix {a b : Ex} (h : chk gn N sc (.ix a b) e = true) : ∃ x i p, e = .Subscript x i p ∧ chk gn N sc a x = true ∧ chk gn N sc b i = true := by
  cases e <;> first | (exact ff h) | skip
  rename_i x i p
  have h : ((slB i).isNone && chk gn N sc a x && chk gn N sc b i) = true := h
  simp only [Bool.and_eq_true] at h
  exact ⟨x, i, p, rfl, h.1.2, h.2⟩
theorem chk_sl {a : Ex} {lo hi : Opt} (h : chk gn N sc (.sl a lo hi) e = true) : ∃ x l u p2 p, e = .Subscript x (.Slice l u none p2) p ∧ chk gn N sc a x = true ∧ chkO gn N sc lo l = true ∧ chkO gn N sc hi u = true := by
  cases e <;> first | (exact ff h) | skip
  rename_i x i p
  cases i <;> first | (exact ff h) | skip
  rename_i l u st p2
  cases st <;> first | (exact ff h) | skip
  have h : (chk gn N sc a x && chkO gn N sc lo l && chkO gn N sc hi u) = true := h
  simp only [Bool.and_eq_true] at h
  exact ⟨x, l, u, p2, p, rfl, h.1.1, h.1.2, h.2⟩
theorem chk_rev {a : Ex} (h : chk gn N sc (.rev a) e = true) : ∃ x n p1 p2 p3 p, e = .Subscript x (.Slice none none (some (.UnaryOp .USub (.Constant (.int 1) n p1) p2)) p3) p ∧ chk gn N sc a x = true := by
  cases e <;> first | (exact ff h) | skip
  rename_i x i p
  cases i <;> first | (exact ff h) | skip
  rename_i l u st p3
  cases l <;> first | (exact ff h) | skip
  cases u <;> first | (exact ff h) | skip
  cases st <;> first | (exact ff h) | skip
  rename_i st
  cases st <;> first | (exact ff h) | skip
  rename_i op c p2
  cases op <;> first | (exact ff h) | skip
  cases c <;> first | (exact ff h) | skip
  rename_i c n p1
  cases c <;> first | (exact ff h) | skip
  rename_i i
  have h : (decide (i = 1) && chk gn N sc a x) = true := h
  simp only [Bool.and_eq_true, decide_eq_true_eq] at h
  exact ⟨x, n, p1, p2, p3, p, by rw [h.1], h.2⟩
theorem chk_call {f : Nat} {es : Exs} (h : chk gn N sc (.call f es) e = true) : ∃ x p1 l p, e = .Call (.Name x p1) l [] p ∧ isO (gn.fn f) x = true ∧ glB sc x = true ∧ chks gn N sc es l = true := by
  cases e <;> first | (exact ff h) | skip
  rename_i fn l ks p
  cases fn <;> first | (exact ff h) | skip
  rename_i x p1
  cases ks <;> first | (exact ff h) | skip
  have h : (isO (gn.fn f) x && glB sc x && chks gn N sc es l) = true := h
  simp only [Bool.and_eq_true] at h
  exact ⟨x, p1, l, p, rfl, h.1.1, h.1.2, h.2⟩
theorem chk_bi {b : Bi} {es : Exs} (h : chk gn N sc (.bi b es) e = true) : ∃ p1 l p, e = .Call (.Name (biS b) p1) l [] p ∧ glB sc (biS b) = true ∧ chks gn N sc es l = true := by
  cases e <;> first | (exact ff h) | skip
  rename_i fn l ks p
  cases fn <;> first | (exact ff h) | skip
  rename_i x p1
  cases ks <;> first | (exact ff h) | skip
  have h : (decide (biS b = x) && glB sc x && chks gn N sc es l) = true := h
  simp only [Bool.and_eq_true, decide_eq_true_eq] at h
  obtain ⟨⟨h1, h2⟩, h3⟩ := h
  subst h1
  exact ⟨p1, l, p, rfl, h2, h3⟩
theorem chk_isi {a : Ex} {ts : List Ty} {tp : Bool} (h : chk gn N sc (.isi a ts tp) e = true) : ∃ p1 y t p, e = .Call (.Name "isinstance" p1) [y, t] [] p ∧ glB sc "isinstance" = true ∧ chk gn N sc a y = true ∧
    ((∃ ty, tp = false ∧ ts = [ty] ∧ chkTy gn sc ty t = true) ∨ (∃ l n p2, tp = true ∧ t = .Tuple l n p2 ∧ l.length ≤ 1000 ∧ chkTys gn sc ts l = true)) := by
  cases e <;> first | (exact ff h) | skip
  rename_i fn l ks p
  cases fn <;> first | (exact ff h) | skip
  rename_i x p1
  rcases l with _ | ⟨y, _ | ⟨t, _ | ⟨u, l⟩⟩⟩ <;> first | (exact ff h) | skip
  cases ks <;> first | (exact ff h) | skip
  have h : (decide (x = ("isinstance" : Str)) && glB sc x && chk gn N sc a y && chkIs gn sc tp ts t) = true := h
  simp only [Bool.and_eq_true, decide_eq_true_eq] at h
  obtain ⟨⟨⟨h1, h2⟩, h3⟩, h4⟩ := h
  subst h1
  refine ⟨p1, y, t, p, rfl, h2, h3, ?_⟩
  unfold chkIs at h4
  split at h4
  · exact .inl ⟨_, rfl, rfl, h4⟩
  · simp only [Bool.and_eq_true, decide_eq_true_eq] at h4
    exact .inr ⟨_, _, _, rfl, rfl, h4.1, h4.2⟩
  · cases h4
theorem chk_comp {elt : Ex} {tg : Tg} {src : Src} {own : List Nat} (h : chk gn N sc (.comp elt tg src own) e = true) : ∃ x t it scope p, e = .ListComp x [⟨t, it, [], 0⟩] scope p ∧ blkB N sc scope own = true ∧ chk gn N (L2.relS scope sc) elt x = true ∧ chkT N (L2.relS scope sc) (fncOf scope) tg t = true ∧ chkS gn N sc src it t = true ∧ (∀ i, i ∈ tg.slots → i ∈ own) := by
  cases e <;> first | (exact ff h) | skip
  rename_i x gs scope p
  rcases gs with _ | ⟨⟨t, it, ifs, z⟩, _ | ⟨u, gs⟩⟩ <;> first | (exact ff h) | (cases ifs <;> exact ff h) | skip
  cases ifs <;> first | (exact ff h) | skip
  have h : (decide (z = 0) && blkB N sc scope own && chk gn N (L2.relS scope sc) elt x && chkT N (L2.relS scope sc) (fncOf scope) tg t && chkS gn N sc src it t && tg.slots.all own.contains) = true := h
  simp only [Bool.and_eq_true, decide_eq_true_eq] at h
  obtain ⟨⟨⟨⟨⟨h1, h2⟩, h3⟩, h4⟩, h5⟩, h6⟩ := h
  subst h1
  exact ⟨x, t, it, scope, p, rfl, h2, h3, h4, h5, fun i hi => by simpa using List.all_eq_true.mp h6 i hi⟩
theorem chk_compIf {elt c : Ex} {tg : Tg} {src : Src} {own : List Nat} (h : chk gn N sc (.compIf elt tg src c own) e = true) : ∃ x t it c' scope p, e = .ListComp x [⟨t, it, [c'], 0⟩] scope p ∧ blkB N sc scope own = true ∧ chk gn N (L2.relS scope sc) elt x = true ∧ chkT N (L2.relS scope sc) (fncOf scope) tg t = true ∧ chkS gn N sc src it t = true ∧ chk gn N (L2.relS scope sc) c c' = true ∧ (∀ i, i ∈ tg.slots → i ∈ own) := by
  cases e <;> first | (exact ff h) | skip
  rename_i x gs scope p
  rcases gs with _ | ⟨⟨t, it, ifs, z⟩, _ | ⟨u, gs⟩⟩ <;> first | (exact ff h) | (rcases ifs with _ | ⟨c', _ | ⟨c2, ifs⟩⟩ <;> exact ff h) | skip
  rcases ifs with _ | ⟨c', _ | ⟨c2, ifs⟩⟩ <;> first | (exact ff h) | skip
  have h : (decide (z = 0) && blkB N sc scope own && chk gn N (L2.relS scope sc) elt x && chkT N (L2.relS scope sc) (fncOf scope) tg t && chkS gn N sc src it t && chk gn N (L2.relS scope sc) c c' && tg.slots.all own.contains) = true := h
  simp only [Bool.and_eq_true, decide_eq_true_eq] at h
  obtain ⟨⟨⟨⟨⟨⟨h1, h2⟩, h3⟩, h4⟩, h5⟩, h6⟩, h7⟩ := h
  subst h1
  exact ⟨x, t, it, c', scope, p, rfl, h2, h3, h4, h5, h6, fun i hi => by simpa using List.all_eq_true.mp h7 i hi⟩

theorem chkS_rng {a : Ex} {t : Expr} (h : chkS gn N sc (.rng a) e t = true) : ∃ p1 y p, e = .Call (.Name "range" p1) [y] [] p ∧ glB sc "range" = true ∧ chk gn N sc a y = true := by
  cases e <;> first | (exact ff h) | skip
  rename_i fn l ks p
  cases fn <;> first | (exact ff h) | skip
  rename_i x p1
  rcases l with _ | ⟨y, _ | ⟨z, l⟩⟩ <;> first | (exact ff h) | skip
  cases ks <;> first | (exact ff h) | skip
  have h : (decide (x = ("range" : Str)) && glB sc x && chk gn N sc a y) = true := h
  simp only [Bool.and_eq_true, decide_eq_true_eq] at h
  obtain ⟨⟨h1, h2⟩, h3⟩ := h
  subst h1
  exact ⟨p1, y, p, rfl, h2, h3⟩
theorem chkS_rng2 {a b : Ex} {t : Expr} (h : chkS gn N sc (.rng2 a b) e t = true) : ∃ p1 y z p, e = .Call (.Name "range" p1) [y, z] [] p ∧ glB sc "range" = true ∧ chk gn N sc a y = true ∧ chk gn N sc b z = true := by
  cases e <;> first | (exact ff h) | skip
  rename_i fn l ks p
  cases fn <;> first | (exact ff h) | skip
  rename_i x p1
  rcases l with _ | ⟨y, _ | ⟨z, _ | ⟨u, l⟩⟩⟩ <;> first | (exact ff h) | skip
  cases ks <;> first | (exact ff h) | skip
  have h : (decide (x = ("range" : Str)) && glB sc x && chk gn N sc a y && chk gn N sc b z) = true := h
  simp only [Bool.and_eq_true, decide_eq_true_eq] at h
  obtain ⟨⟨⟨h1, h2⟩, h3⟩, h4⟩ := h
  subst h1
  exact ⟨p1, y, z, p, rfl, h2, h3, h4⟩
theorem isTup_ok {t : Expr} (h : isTup t = true) : ∃ l n p, t = .Tuple l n p := by
  cases t <;> first | exact ff h | exact ⟨_, _, _, rfl⟩
theorem chkS_enum {a : Ex} {t : Expr} (h : chkS gn N sc (.enum a) e t = true) : ∃ p1 y p, e = .Call (.Name "enumerate" p1) [y] [] p ∧ glB sc "enumerate" = true ∧ chk gn N sc a y = true ∧ isTup t = true := by
  cases e <;> first | (exact ff h) | skip
  rename_i fn l ks p
  cases fn <;> first | (exact ff h) | skip
  rename_i x p1
  rcases l with _ | ⟨y, _ | ⟨z, l⟩⟩ <;> first | (exact ff h) | skip
  cases ks <;> first | (exact ff h) | skip
  have h : (decide (x = ("enumerate" : Str)) && glB sc x && chk gn N sc a y && isTup t) = true := h
  simp only [Bool.and_eq_true, decide_eq_true_eq] at h
  obtain ⟨⟨⟨h1, h2⟩, h3⟩, h4⟩ := h
  subst h1
  exact ⟨p1, y, p, rfl, h2, h3, h4⟩
theorem chkS_zip {a b : Ex} {t : Expr} (h : chkS gn N sc (.zip a b) e t = true) : ∃ p1 y z p, e = .Call (.Name "zip" p1) [y, z] [] p ∧ glB sc "zip" = true ∧ chk gn N sc a y = true ∧ chk gn N sc b z = true ∧ isTup t = true := by
  cases e <;> first | (exact ff h) | skip
  rename_i fn l ks p
  cases fn <;> first | (exact ff h) | skip
  rename_i x p1
  rcases l with _ | ⟨y, _ | ⟨z, _ | ⟨u, l⟩⟩⟩ <;> first | (exact ff h) | skip
  cases ks <;> first | (exact ff h) | skip
  have h : (decide (x = ("zip" : Str)) && glB sc x && chk gn N sc a y && chk gn N sc b z && isTup t) = true := h
  simp only [Bool.and_eq_true, decide_eq_true_eq] at h
  obtain ⟨⟨⟨⟨h1, h2⟩, h3⟩, h4⟩, h5⟩ := h
  subst h1
  exact ⟨p1, y, z, p, rfl, h2, h3, h4, h5⟩

/-- never a star, a slice -/
theorem chk_plain {m : Ex} (h : chk gn N sc m e = true) : (∀ a b, e ≠ .Starred a b) ∧ (∀ a b c d, e ≠ .Slice a b c d) := by
  constructor
  · intro a b q
    subst q
    cases m <;> exact ff h
  · intro a b c d q
    subst q
    cases m <;> exact ff h
theorem star_one {es : List Expr} {env : PySem.Env} (h : ∀ a b, e ≠ .Starred a b) : starEach (e :: es) env = (false, eval e env) :: starEach es env := by
  cases e <;> first | rfl | exact absurd rfl (h _ _)
theorem plainIx (h : ∀ a b c d, e ≠ .Slice a b c d) : L2.PlainIx e := by
  intro o i
  cases e <;> first | rfl | exact absurd rfl (h _ _ _ _)
theorem chks_plain : ∀ {es : Exs} {l : List Expr}, chks gn N sc es l = true → ∀ (pos : Pos) (env : PySem.Env), (backTo pos (starEach l env)).any (·.1) = false
  | .nil, l, h, _, _ => by
    cases l with
    | nil => rfl
    | cons a r => exact ff h
  | .cons a es, l, h, pos, env => by
    cases l with
    | nil => exact ff h
    | cons x r =>
      have h : (chk gn N sc a x && chks gn N sc es r) = true := h
      rw [Bool.and_eq_true] at h
      rw [star_one (chk_plain h.1).1]
      show (false || (backTo pos (starEach r env)).any (·.1)) = false
      rw [chks_plain h.2]; rfl
end
end PF
set_option Elab.async false
set_option linter.all false
set_option maxRecDepth 100000
/-! PF, part f: readings of expressions. -/
namespace PF
open PySem PySem.Spec PyProof.Rows
open L2 (V Hp HO upd upd_same upd_ne Same SqL SqT WX PE PT PA PC OpR CallR IxR SlR MtR TruR VK)
section
variable {g : Gm} {W : WX} {σ : L2.St} {G H : Hp} {α β : Type} {Rl : RL α β} {s : S} {F : Nat → Fp} {X : L2.Cx} {e : Expr}
theorem PE_imp {t t' : L2.TE} (h : PE X e t) (k : ∀ σ H Q, t' σ H Q → t σ H Q) : PE X e t' := ⟨fun pins s σ H Q I q => h.run pins s σ H Q I (k _ _ _ q)⟩
theorem PT_imp {t t' : L2.TT} (h : PT X e t) (k : ∀ σ H Q, t' σ H Q → t σ H Q) : PT X e t' := ⟨fun pins s σ H Q I q => h.run pins s σ H Q I (k _ _ _ q)⟩
theorem PA_imp {es : List Expr} {t t' : L2.TA} (h : PA X es t) (k : ∀ σ H Q, t' σ H Q → t σ H Q) : PA X es t' := ⟨fun pos pins s σ H Q I q => h.run pos pins s σ H Q I (k _ _ _ q)⟩
theorem PE_frz {f : S → Res OV} (h : PE X e (T g W (RlO g) f)) : PE X e (T g W (RlV g) fun s => frzR (f s)) :=
  PE_imp h fun _ _ _ ⟨G, s, F, R, p⟩ => ⟨G, s, F, R, Post.frz p⟩

/-- a slot that is read, where it stands -/
theorem RS.look {i : Nat} {v : PV} (R : RS g G H s σ F) (e : getV s i = some v) : i < s.length ∧ ∃ x, σ[i]? = some (some x) ∧ PkR g G H v x := by
  have hi : i < s.length := by
    refine Classical.byContradiction fun h => ?_
    unfold getV at e
    rw [getO_out (Nat.le_of_not_lt h)] at e
    cases e
  exact ⟨hi, (R.at_ i hi).view R.sub e⟩
/-- .. and is frozen -/
theorem RS.thaw {i : Nat} {v : PV} (R : RS g G H s σ F) (e : getV s i = some v) : ∃ G' F' x, Stp G H (Own F) G' H (Own F') ∧ RS g G' H (if (getO s i).own then s.set i (.sh v) else s) σ F' ∧ σ[i]? = some (some x) ∧ Rep g G' v x := by
  obtain ⟨hi, x, ex, _⟩ := R.look e
  cases ho : (getO s i).own with
  | true =>
    have R2 := R.freeze hi e
    obtain ⟨y, ey, r⟩ := (R.at_ i hi).frozen (fun a p => R.fr i a p) e
    refine ⟨_, _, y, (Stp.frz (A := Own F) (fun a p => ⟨i, p⟩) fun a p => R.fr i a p).sub fun a q => ⟨q.put, fun p => ?_⟩, R2, ey, r⟩
    rcases own_updF q with z | ⟨j, hj, z⟩
    · exact z
    · exact hj (R.dis j i a z p)
  | false =>
    have hr : Rep g G v x := by
      have h := R.at_ i hi
      unfold getV at e
      cases q : getO s i with
      | emp => rw [q] at e; cases e
      | sh w =>
        rw [q] at e h
        cases e
        obtain ⟨_, y, ey, r⟩ := h
        rw [ex] at ey; cases ey
        exact r
      | lst xs => rw [q] at ho; cases ho
      | obj c fs => rw [q] at ho; cases ho
    exact ⟨G, F, x, Stp.refl, R, ex, hr⟩

def tPk (g : Gm) (W : WX) (a : Ex) (fa : S → Res OV) : L2.TE := match a with
  | .var i => L2.tVar i
  | _ => T g W (RlV g) fun s => frzR (fa s)
theorem Post.unpeek {r : Res PV} {Q : VK} {A : Fp} (h : Post g W σ G H A (RlP g) Q r) : Post g W σ G H A (RlV g) Q r := by
  cases r with
  | ok v s => exact fun G' H' F' P x t R d q => h G' H' F' P x t R d ⟨q.1, PkR.of R.sub q.2⟩
  | exc e s => exact h
  | bad => exact h
theorem var_or (a : Ex) : (∃ i, a = .var i) ∨ ((∀ fa, tPk g W a fa = T g W (RlV g) fun s => frzR (fa s)) ∧ (∀ fa s, peek a fa s = frzR (fa s)) ∧ (∀ {α : Type} fa (k : S → Res α) s, late a fa k s = (frzR (fa s)).bind fun x s1 => (k s1).bind fun y s2 => .ok (x, y) s2) ∧
    (∀ fa b s, argR a fa b s = (frzR (fa s)).bind fun v s' => .ok (.v v) s') ∧ (∀ fa s, openSeq a fa s = (frzR (fa s)).bind fun v s' => .ok (v, none) s')) := by
  have hb : ∀ (r : Res OV), (r.bind fun o s' => (Res.opt o.pv s').bind fun v s'' => .ok (CA.v v) s'') = (frzR r).bind fun v s' => .ok (.v v) s' := fun r => by
    cases r with
    | ok o s => cases h : o.pv <;> simp [Res.bind, frzR, Res.opt, h]
    | exc e s => rfl
    | bad => rfl
  cases a <;> first | exact .inl ⟨_, rfl⟩ | exact .inr ⟨fun _ => rfl, fun _ _ => rfl, fun _ _ _ => rfl, fun _ _ _ => hb _, fun _ _ => rfl⟩
theorem tPk_of {a : Ex} {fa : S → Res OV} {Q : VK} (h : T g W (RlP g) (peek a fa) σ H Q) : tPk g W a fa σ H Q := by
  obtain ⟨G, s, F, R, p⟩ := h
  rcases var_or (g := g) (W := W) a with ⟨i, rfl⟩ | ⟨e1, e2, _⟩
  · obtain ⟨v, e, p⟩ := Post.opt p
    obtain ⟨hi, x, ex, r⟩ := R.look e
    exact ⟨x, ex, Post.here (b := x) R p ⟨fun _ z => z, r⟩⟩
  · rw [e1]
    rw [e2] at p
    exact ⟨G, s, F, R, Post.unpeek p⟩
def RlP2 (g : Gm) {α β : Type} (Rl : RL α β) : RL (PV × α) (V × β) := fun σ s G H p q P => PkR g G H p.1 q.1 ∧ Rl σ s G H p.2 q.2 P
/-- a value, then what is read behind it -/
theorem late_of {a : Ex} {fa : S → Res OV} {k : S → Res α} {Q : V × β → Hp → Prop} (h : T g W (RlP2 g Rl) (late a fa k) σ H Q) : tPk g W a fa σ H fun x H1 => T g W Rl k σ H1 fun y H2 => Q (x, y) H2 := by
  obtain ⟨G, s, F, R, p⟩ := h
  rcases var_or (g := g) (W := W) a with ⟨i, rfl⟩ | ⟨e1, e2, e3, _⟩
  · -- a name
    obtain ⟨v0, e0, p⟩ := (by
      cases hv : getV s i with
      | none => rw [show late (Ex.var i) fa k s = .bad by simp [late, hv, Res.opt, Res.bind]] at p; exact p.elim
      | some v => exact ⟨v, rfl, (by simpa [late, hv, Res.opt, Res.bind] using p)⟩ : ∃ v, getV s i = some v ∧ Post g W σ G H (Own F) (RlP2 g Rl) Q ((k s).bind fun y s' => (Res.opt (getV s' i) s').bind fun x s'' => .ok (x, y) s''))
    obtain ⟨_, x, ex, _⟩ := R.look e0
    refine ⟨x, ex, G, s, F, R, ?_⟩
    cases hk : k s with
    | bad => rw [hk] at p; exact p
    | exc e s1 => rw [hk] at p; exact p
    | ok y s1 =>
      rw [hk] at p
      have p : Post g W σ G H (Own F) (RlP2 g Rl) Q ((Res.opt (getV s1 i) s1).bind fun x s'' => .ok (x, y) s'') := p
      cases hv : getV s1 i with
      | none => rw [hv] at p; exact p.elim
      | some v =>
        rw [hv] at p
        intro G' H' F' P b t R1 d q
        obtain ⟨_, x', ex', r⟩ := R1.look hv
        rw [ex] at ex'; cases ex'
        exact p G' H' F' P (x, b) t R1 d ⟨r, q⟩
  · rw [e1]
    rw [e3] at p
    refine ⟨G, s, F, R, (Post.bind (Rl := RlV g) p).imp fun x H1 q => ?_⟩
    obtain ⟨G1, s1, F1, v, P, t, R1, d, ⟨nP, r⟩, p1⟩ := q
    refine ⟨G1, s1, F1, R1, ?_⟩
    have p2 : Post g W σ G1 H1 (Own F1) (RlP2 g Rl) Q ((k s1).bind fun y s2 => .ok (v, y) s2) := p1.sup fun a h => .inr h
    cases hk : k s1 with
    | bad => rw [hk] at p2; exact p2
    | exc e s2 => rw [hk] at p2; exact p2
    | ok y s2 =>
      rw [hk] at p2
      exact fun G' H' F' P b t R2 d q => p2 G' H' F' P (x, b) t R2 d ⟨PkR.of R2.sub (Rep.mono t.g _ _ r), q⟩

theorem Stp.sub' {G H G1 H1 : Hp} {A A1 A2 : Fp} (x : Stp G H A G1 H1 A1) (h : ∀ a, A2 a → A1 a ∨ A a) : Stp G H A G1 H1 A2 := ⟨x.g, x.keep, x.gnew, fun a k => (h a k).elim (x.fnew a) .inl⟩
/-! ### the arguments of a call -/
def CaR (g : Gm) (σ : L2.St) (G : Hp) : CA → V → Prop
  | .v p, x => Rep g G p x
  | .s i, x => σ[i]? = some (some x)
def CAs (g : Gm) (σ : L2.St) (G : Hp) : List CA → List V → Prop
  | [], xs => xs = []
  | c :: cs, xs => ∃ x r, xs = x :: r ∧ CaR g σ G c x ∧ CAs g σ G cs r
theorem CaR.mono {G' : Hp} (m : Same G G') {c : CA} {x : V} (h : CaR g σ G c x) : CaR g σ G' c x := by
  cases c with
  | v p => exact Rep.mono m _ _ h
  | s i => exact h
theorem CAs.mono {G' : Hp} (m : Same G G') : ∀ {cs : List CA} {xs : List V}, CAs g σ G cs xs → CAs g σ G' cs xs
  | [], _, h => h
  | c :: cs, _, h => by
    obtain ⟨x, r, e, h1, h2⟩ := h
    exact ⟨x, r, e, h1.mono m, CAs.mono m h2⟩
def sh1 (F : Nat → Fp) : Nat → Fp := fun i => F (i + 1)
def cons1 (P : Fp) (F : Nat → Fp) : Nat → Fp := fun i => match i with
  | 0 => P
  | i + 1 => F i
theorem RS.uncons {o : OV} {os : List OV} {w : Option V} {ws : L2.St} (R : RS g G H (o :: os) (w :: ws) F) : OvR g G H o (some w) (F 0) ∧ RS g G H os ws (sh1 F) ∧ ∀ a, F 0 a → G a = none ∧ ¬ Own (sh1 F) a := by
  refine ⟨R.at_ 0 (Nat.succ_pos _), ⟨by have := R.len; simpa using this, fun i hi => R.at_ (i + 1) (Nat.succ_lt_succ hi), fun i j a p q => Nat.succ.inj (R.dis (i + 1) (j + 1) a p q), fun i a p => R.fr (i + 1) a p, fun i a p => Nat.lt_of_succ_lt_succ (R.out (i + 1) a p), R.sub⟩, fun a p => ⟨R.fr 0 a p, fun ⟨i, q⟩ => ?_⟩⟩
  exact absurd (R.dis 0 (i + 1) a p q) (Nat.ne_of_lt (Nat.succ_pos i))
theorem RS.cons {o : OV} {os : List OV} {w : Option V} {ws : L2.St} {P : Fp} (h : OvR g G H o (some w) P) (R : RS g G H os ws F) (n : ∀ a, P a → G a = none ∧ ¬ Own F a) : RS g G H (o :: os) (w :: ws) (cons1 P F) where
  len := by simp [R.len]
  at_ := fun i hi => by
    cases i with
    | zero => exact h
    | succ i => exact R.at_ i (Nat.lt_of_succ_lt_succ hi)
  dis := fun i j a p q => by
    cases i with
    | zero =>
      cases j with
      | zero => rfl
      | succ j => exact absurd ⟨j, q⟩ (n a p).2
    | succ i =>
      cases j with
      | zero => exact absurd ⟨i, p⟩ (n a q).2
      | succ j => exact congrArg Nat.succ (R.dis i j a p q)
  fr := fun i a p => by
    cases i with
    | zero => exact (n a p).1
    | succ i => exact R.fr i a p
  out := fun i a p => by
    cases i with
    | zero => exact Nat.succ_pos _
    | succ i => exact Nat.succ_lt_succ (R.out i a p)
  sub := R.sub
theorem RS.nilS (m : Same G H) : RS g G H [] [] (fun _ => none_) := ⟨rfl, fun i hi => absurd hi (Nat.not_lt_zero i), fun _ _ _ p => p.elim, fun _ _ p => p.elim, fun _ _ p => p.elim, m⟩
theorem own_cons {P : Fp} {a : Addr} (h : Own (cons1 P F) a) : P a ∨ Own F a := by
  obtain ⟨i, p⟩ := h
  cases i with
  | zero => exact .inl p
  | succ i => exact .inr ⟨i, p⟩
theorem own_none {a : Addr} (h : Own (fun _ => none_) a) : False := by obtain ⟨_, p⟩ := h; exact p
theorem take_ok : ∀ (cas : List CA) (xs : List V) (s : S) (F : Nat → Fp) (ovs : List OV) (s2 : S), RS g G H s σ F → CAs g σ G cas xs → takeA cas s = some (ovs, s2) →
    ∃ Fa Fr, RS g G H ovs (xs.map some) Fa ∧ RS g G H s2 σ Fr ∧ (∀ a, Own Fa a → Own F a ∧ ¬ Own Fr a) ∧ ∀ a, Own Fr a → Own F a
  | [], _, s, F, ovs, s2, R, h, e => by
    cases (show _ = [] from h)
    cases e
    exact ⟨_, F, RS.nilS R.sub, R, fun a p => (own_none p).elim, fun _ p => p⟩
  | .v p :: r, _, s, F, ovs, s2, R, h, e => by
    obtain ⟨x, xr, rfl, h1, h2⟩ := h
    have e : (takeA r s).map (fun q => (OV.sh p :: q.1, q.2)) = some (ovs, s2) := e
    cases q : takeA r s with
    | none => rw [q] at e; cases e
    | some z =>
      rw [q] at e
      obtain ⟨os, s3⟩ := z
      cases e
      obtain ⟨Fa, Fr, R1, R2, n1, n2⟩ := take_ok r xr s F os s3 R h2 q
      exact ⟨cons1 none_ Fa, Fr, R1.cons (P := none_) ⟨fun _ z => z, x, rfl, h1⟩ fun _ z => z.elim, R2, fun a p => (own_cons p).elim (fun z => z.elim) (n1 a), n2⟩
  | .s i :: r, _, s, F, ovs, s2, R, h, e => by
    obtain ⟨x, xr, rfl, h1, h2⟩ := h
    have h1 : σ[i]? = some (some x) := h1
    have hi : i < s.length := by
      rw [R.len]; exact (List.getElem?_eq_some_iff.mp h1).1
    have hat := R.at_ i hi
    rw [h1] at hat
    have own : ∀ o : OV, o.own = true → getO s i = o → (takeA r (s.set i .emp)).map (fun q => (o :: q.1, q.2)) = some (ovs, s2) → ∃ Fa Fr, RS g G H ovs ((x :: xr).map some) Fa ∧ RS g G H s2 σ Fr ∧ (∀ a, Own Fa a → Own F a ∧ ¬ Own Fr a) ∧ ∀ a, Own Fr a → Own F a := by
      intro o _ ho e
      cases q : takeA r (s.set i .emp) with
      | none => rw [q] at e; cases e
      | some z =>
        rw [q] at e
        obtain ⟨os, s3⟩ := z
        cases e
        have R0 : RS g G H (s.set i .emp) σ (updF F i none_) := R.put0 hi (show OvR g G H .emp _ none_ from fun _ z => z) fun a p => p.elim
        obtain ⟨Fa, Fr, R1, R2, n1, n2⟩ := take_ok r xr (s.set i .emp) (updF F i none_) os s3 R0 h2 q
        have apart : ∀ a, F i a → ¬ Own (updF F i none_) a := fun a p z => by
          rcases own_updF z with z | ⟨j, hj, z⟩
          · exact z
          · exact hj (R.dis j i a z p)
        rw [ho] at hat
        refine ⟨cons1 (F i) Fa, Fr, R1.cons hat fun a p => ⟨R.fr i a p, fun z => apart a p (n1 a z).1⟩, R2, fun a p => ?_, fun a p => (n2 a p).put⟩
        rcases own_cons p with p | p
        · exact ⟨⟨i, p⟩, fun z => apart a p (n2 a z)⟩
        · exact ⟨(n1 a p).1.put, (n1 a p).2⟩
    unfold takeA at e
    cases q : getO s i with
    | emp => rw [q] at e; cases e
    | lst ys => rw [q] at e; exact own _ rfl q e
    | obj c fs => rw [q] at e; exact own _ rfl q e
    | sh v =>
      rw [q] at e hat
      have e : (takeA r s).map (fun q => (OV.sh v :: q.1, q.2)) = some (ovs, s2) := e
      cases q2 : takeA r s with
      | none => rw [q2] at e; cases e
      | some z =>
        rw [q2] at e
        obtain ⟨os, s3⟩ := z
        cases e
        obtain ⟨Fa, Fr, R1, R2, n1, n2⟩ := take_ok r xr s F os s3 R h2 q2
        exact ⟨cons1 none_ Fa, Fr, R1.cons (P := none_) ⟨fun _ z => z, hat.2⟩ fun _ z => z.elim, R2, fun a p => (own_cons p).elim (fun z => z.elim) (n1 a), n2⟩
theorem put_ok {G0 : Hp} {s0 : S} : ∀ (cas : List CA) (xs : List V) (outs : List OV) (s : S) (Fr Fa : Nat → Fp), CAs g σ G0 cas xs → RS g G H outs (xs.map some) Fa → RS g G H s σ Fr → (∀ a, Own Fa a → ¬ Own Fr a) →
    ∃ F', RS g G H (putA cas outs s0 s) σ F' ∧ ∀ a, Own F' a → Own Fr a ∨ Own Fa a
  | [], _, outs, s, Fr, Fa, h, R1, R2, n => by
    refine ⟨Fr, ?_, fun a p => .inl p⟩
    cases outs <;> exact R2
  | c :: cs, _, outs, s, Fr, Fa, h, R1, R2, n => by
    obtain ⟨x, xr, rfl, h1, h2⟩ := h
    cases outs with
    | nil => cases R1.len
    | cons o os =>
      obtain ⟨ho, R3, n3⟩ := R1.uncons
      have nt : ∀ a, Own (sh1 Fa) a → ¬ Own Fr a := fun a ⟨i, p⟩ => n a ⟨i + 1, p⟩
      have skip : ∃ F', RS g G H (putA cs os s0 s) σ F' ∧ ∀ a, Own F' a → Own Fr a ∨ Own Fa a := by
        obtain ⟨F', R4, k⟩ := put_ok cs xr os s Fr (sh1 Fa) h2 R3 R2 nt
        exact ⟨F', R4, fun a p => (k a p).imp id fun ⟨i, q⟩ => ⟨i + 1, q⟩⟩
      cases c with
      | v p => exact skip
      | s i =>
        have h1 : σ[i]? = some (some x) := h1
        have hi : i < s.length := by rw [R2.len]; exact (List.getElem?_eq_some_iff.mp h1).1
        have put : ∃ F', RS g G H (putA cs os s0 (s.set i o)) σ F' ∧ ∀ a, Own F' a → Own Fr a ∨ Own Fa a := by
          have R4 : RS g G H (s.set i o) σ (updF Fr i (Fa 0)) := R2.put0 hi (by rw [h1]; exact ho) fun a p => ⟨(n3 a p).1, fun j _ q => n a ⟨0, p⟩ ⟨j, q⟩⟩
          obtain ⟨F', R5, k⟩ := put_ok cs xr os (s.set i o) (updF Fr i (Fa 0)) (sh1 Fa) h2 R3 R4 fun a p q => by
            rcases own_updF q with q | ⟨j, _, q⟩
            · exact (n3 a q).2 p
            · exact nt a p ⟨j, q⟩
          refine ⟨F', R5, fun a p => ?_⟩
          rcases k a p with q | ⟨i, q⟩
          · rcases own_updF q with q | ⟨j, _, q⟩
            · exact .inr ⟨0, q⟩
            · exact .inl ⟨j, q⟩
          · exact .inr ⟨i + 1, q⟩
        show ∃ F', RS g G H (match getO s0 i with
          | .sh _ => putA cs os s0 s
          | _ => putA cs os s0 (s.set i o)) σ F' ∧ _
        cases getO s0 i with
        | sh v => exact skip
        | _ => exact put
/-- a call behind its arguments -/
theorem call_of {Γ : Env} {f : Nat} {cas : List CA} {xs : List V} {Q : VK} (R : RS g G H s σ F) (h : CAs g σ G cas xs)
    (p : Post g W σ G H (Own F) (RlO g) Q (match takeA cas s with
      | none => .bad
      | some q => callR (Γ.rho f q.1) cas s q.2)) : SpF g Γ f (xs ++ []) H Q (fun cls d H' => W cls d σ H') := by
  rw [List.append_nil]
  cases q : takeA cas s with
  | none => rw [q] at p; exact p.elim
  | some z =>
    rw [q] at p
    obtain ⟨ovs, s2⟩ := z
    obtain ⟨Fa, Fr, R1, R2, n1, n2⟩ := take_ok cas xs s F ovs s2 R h q
    refine ⟨G, ovs, Fa, R1, ?_⟩
    have p : Post g W σ G H (Own F) (RlO g) Q (callR (Γ.rho f ovs) cas s s2) := p
    have subA : ∀ a, Own Fa a → Own F a := fun a k => (n1 a k).1
    have back : ∀ {G' H' : Hp} {A' : Fp} {outs : List OV} {Fa' : Nat → Fp}, Stp G H (Own Fa) G' H' A' → (∀ a, Own Fa' a → A' a) → RS g G' H' outs (xs.map some) Fa' → ∃ F', RS g G' H' (putA cas outs s s2) σ F' ∧ ∀ a, Own F' a → Own Fr a ∨ Own Fa' a := by
      intro G' H' A' outs Fa' t sub Ro
      have R3 : RS g G' H' s2 σ Fr := R2.stp t (fun a k z => (n1 a z).2 k) Ro.sub
      refine put_ok cas xs outs s2 Fr Fa' h Ro R3 fun a k z => ?_
      rcases t.fnew a (sub a k) with w | w
      · exact (n1 a w).2 z
      · obtain ⟨u, hu⟩ := R2.no z
        rw [hu] at w; cases w
    cases hr : Γ.rho f ovs with
    | bad => rw [hr] at p; exact p
    | ok o outs =>
      rw [hr] at p
      intro G' H' Fa' P z t Ro d q
      obtain ⟨F', R4, k⟩ := back t (fun a k => .inr k) Ro
      have frA : ∀ a, Own Fr a → ¬ P a := fun a k z => by
        rcases t.fnew a (.inl z) with w | w
        · exact (n1 a w).2 k
        · obtain ⟨u, hu⟩ := R2.no k
          rw [hu] at w; cases w
      refine p G' H' F' P z ?_ R4 (fun c pc => ⟨(d c pc).1, fun z => ?_⟩) q
      · refine (Stp.sup t subA).sub' ?_
        intro a z
        rcases z with z | z
        · exact .inl (.inl z)
        · rcases k a z with z | z
          · exact .inr (n2 a z)
          · exact .inl (.inr z)
      · rcases k c z with z | z
        · exact frA c z pc
        · exact (d c pc).2 z
    | exc e outs =>
      rw [hr] at p
      intro G' H' Fa' d t Ro xr
      obtain ⟨F', R4, k⟩ := back t (fun a k => k) Ro
      refine p G' H' F' d ?_ R4 xr
      refine (Stp.sup t subA).sub' ?_
      intro a z
      rcases k a z with z | z
      · exact .inr (n2 a z)
      · exact .inl z
end
end PF
set_option Elab.async false
set_option linter.all false
set_option maxRecDepth 100000
/-! PF, part g: what loops walk; comprehensions. -/
namespace PF
open PySem PySem.Spec PyProof.Rows
open L2 (V Hp HO upd upd_same upd_ne Same SqL SqT WX PE PT PA PC OpR CallR IxR SlR MtR TruR VK)
section
variable {g : Gm} {W : WX} {σ : L2.St} {G H : Hp} {α β : Type} {Rl : RL α β} {s : S} {F : Nat → Fp} {X : L2.Cx} {e : Expr}
/-- an iterator of these items, from here on: what Pr holds stands as it stood -/
structure SrcOk (g : Gm) (J : L2.It) (xs : List PV) (Pr : Fp) (G1 H1 : Hp) : Prop where
  go : ∀ G H, Same G H → Same G1 G → (∀ a o, Pr a → H1 a = some o → H a = some o) → ∀ i, i < xs.length → J.go i H
  stop : ∀ G H, Same G H → Same G1 G → (∀ a o, Pr a → H1 a = some o → H a = some o) → J.stop xs.length H
  yld : ∀ G H, Same G H → Same G1 G → (∀ a o, Pr a → H1 a = some o → H a = some o) → ∀ i x H', J.yld i H x H' → ∀ v, xs[i]? = some v → ∃ G', Same G' H' ∧ Stp G H none_ G' H' none_ ∧ Rep g G' v x
/-- what is walked -/
def RlS (g : Gm) : RL (List PV × Lk) L2.It := fun σ s G H p J P => (∀ a, ¬ P a) ∧ match p.2 with
  | none => SrcOk g J p.1 none_ G H
  | some (i, ov) => ov = getO s i ∧ ov.own = true ∧ i < s.length ∧ ∀ Pr, OvR g G H ov σ[i]? Pr → SrcOk g J p.1 Pr G H
def TI (g : Gm) (W : WX) (f : S → Res (List PV × Lk)) : L2.TI := fun σ H R => ∃ G s F, RS g G H s σ F ∧ Post g W σ G H (Own F) (RlS g) R (f s)

theorem src_list {a : Addr} {vs : List V} {xs : List PV} {Pr : Fp} (k : ∀ G' H', Same G' H' → Same G G' → (∀ a o, Pr a → H a = some o → H' a = some o) → SqL g.K H' a vs) (r : Reps g G xs vs) : SrcOk g (L2.Itl g.K a) xs Pr G H where
  go := fun G' H' m m1 kp i hi => by
    have q := k G' H' m m1 kp
    have hj : i < vs.length := by rw [← r.length]; exact hi
    exact ⟨vs, vs[i], q, by simp [hj]⟩
  stop := fun G' H' m m1 kp => ⟨vs, k G' H' m m1 kp, by rw [r.length]; exact Nat.le_refl _⟩
  yld := fun G' H' m m1 kp i x H2 y v ev => by
    obtain ⟨e, y⟩ := y
    obtain ⟨u, eu, ru⟩ := r.get ev
    have z := y vs (k G' H' m m1 kp)
    rw [eu] at z; cases z
    subst e
    exact ⟨G', m, Stp.refl, Rep.mono m1 _ _ ru⟩
theorem src_tup {a : Addr} {vs : List V} {xs : List PV} {Pr : Fp} (h : SqT g.K G a vs) (r : Reps g G xs vs) : SrcOk g (L2.Itt g.K a) xs Pr G H where
  go := fun G' H' m m1 kp i hi => by
    have q := sqT_mono (m1.trans m) h
    have hj : i < vs.length := by rw [← r.length]; exact hi
    exact ⟨vs, vs[i], q, by simp [hj]⟩
  stop := fun G' H' m m1 kp => ⟨vs, sqT_mono (m1.trans m) h, by rw [r.length]; exact Nat.le_refl _⟩
  yld := fun G' H' m m1 kp i x H2 y v ev => by
    obtain ⟨e, y⟩ := y
    obtain ⟨u, eu, ru⟩ := r.get ev
    have z := y vs (sqT_mono (m1.trans m) h)
    rw [eu] at z; cases z
    subst e
    exact ⟨G', m, Stp.refl, Rep.mono m1 _ _ ru⟩
theorem rngL_get {lo hi : Int} {i : Nat} {v : PV} (h : (rngL lo hi)[i]? = some v) : v = .int (lo + (i : Nat)) ∧ i < (hi - lo).toNat := by
  unfold rngL at h
  rw [List.getElem?_map] at h
  cases q : (List.range (hi - lo).toNat)[i]? with
  | none => rw [q] at h; cases h
  | some j =>
    rw [q] at h
    have hj := List.getElem?_eq_some_iff.mp q
    obtain ⟨h1, h2⟩ := hj
    rw [List.getElem_range] at h2
    subst h2
    cases h
    exact ⟨rfl, by simpa using h1⟩
theorem rngL_len (lo hi : Int) : (rngL lo hi).length = (hi - lo).toNat := by simp [rngL]
theorem src_rng {lo hi : Int} {Pr : Fp} : SrcOk g (L2.Itr lo (hi - lo).toNat) (rngL lo hi) Pr G H where
  go := fun _ _ _ _ _ i hi => by rw [rngL_len] at hi; exact hi
  stop := fun _ _ _ _ _ => by rw [rngL_len]; exact Nat.le_refl _
  yld := fun G' H' m m1 kp i x H2 y v ev => by
    obtain ⟨e, y⟩ := y
    subst e y
    exact ⟨G', m, Stp.refl, by rw [(rngL_get ev).1]; exact rep_int⟩
theorem enumL_get : ∀ {xs : List PV} {k i : Nat} {v : PV}, (enumL k xs)[i]? = some v → ∃ x, xs[i]? = some x ∧ v = .tup [.int ((k + i : Nat) : Int), x]
  | [], k, i, v, h => by simp [enumL] at h
  | x :: xs, k, 0, v, h => by
    simp [enumL] at h
    exact ⟨x, rfl, by rw [← h]; simp⟩
  | x :: xs, k, i + 1, v, h => by
    have h : (enumL (k + 1) xs)[i]? = some v := by simpa [enumL] using h
    obtain ⟨y, e1, e2⟩ := enumL_get h
    have q : k + 1 + i = k + (i + 1) := by omega
    rw [q] at e2
    exact ⟨y, by simpa using e1, e2⟩
theorem enumL_len : ∀ (xs : List PV) (k : Nat), (enumL k xs).length = xs.length
  | [], _ => rfl
  | x :: xs, k => by simp [enumL, enumL_len xs]
/-- a new pair -/
theorem pair_new {p : Addr} {x y : V} {v w : PV} (m : Same G H) (n : H p = none) (h1 : Rep g G v x) (h2 : Rep g G w y) : ∃ G', Same G' (upd H p (.tup [x, y])) ∧ Stp G H none_ G' (upd H p (.tup [x, y])) none_ ∧ Rep g G' (.tup [v, w]) (.ref p) := by
  have hG : G p = none := m.free n
  exact ⟨upd G p (.tup [x, y]), same_newG m n, Stp.newG m n, p, [x, y], rfl, .inl (.inl upd_same), Reps.mono (same_upd hG) _ _ (Reps.cons h1 (Reps.cons h2 Reps.nil))⟩
theorem src_enum {a : Addr} {vs : List V} {xs : List PV} {Pr : Fp} (k : ∀ G' H', Same G' H' → Same G G' → (∀ a o, Pr a → H a = some o → H' a = some o) → SqL g.K H' a vs) (r : Reps g G xs vs) : SrcOk g (L2.Ite g.K a) (enumL 0 xs) Pr G H where
  go := fun G' H' m m1 kp i hi => by
    have q := k G' H' m m1 kp
    rw [enumL_len] at hi
    have hj : i < vs.length := by rw [← r.length]; exact hi
    exact ⟨vs, vs[i], q, by simp [hj]⟩
  stop := fun G' H' m m1 kp => ⟨vs, k G' H' m m1 kp, by rw [enumL_len, r.length]; exact Nat.le_refl _⟩
  yld := fun G' H' m m1 kp i x H2 y v ev => by
    obtain ⟨T, z, rfl, n, rfl, y⟩ := y
    obtain ⟨w, ew, rfl⟩ := enumL_get ev
    obtain ⟨u, eu, ru⟩ := r.get ew
    have q := y vs (k G' H' m m1 kp)
    rw [eu] at q; cases q
    have e0 : ((0 + i : Nat) : Int) = (i : Nat) := by simp
    rw [e0]
    exact pair_new m n (rep_int (i := (i : Nat))) (Rep.mono m1 _ _ ru)
theorem zipL_get : ∀ {xs ys : List PV} {i : Nat} {v : PV}, (zipL xs ys)[i]? = some v → ∃ x y, xs[i]? = some x ∧ ys[i]? = some y ∧ v = .tup [x, y]
  | [], _, i, v, h => by simp [zipL] at h
  | _ :: _, [], i, v, h => by simp [zipL] at h
  | x :: xs, y :: ys, 0, v, h => by
    simp [zipL] at h
    exact ⟨x, y, rfl, rfl, h.symm⟩
  | x :: xs, y :: ys, i + 1, v, h => by
    have h : (zipL xs ys)[i]? = some v := by simpa [zipL] using h
    obtain ⟨a, b, e1, e2, e3⟩ := zipL_get h
    exact ⟨a, b, by simpa using e1, by simpa using e2, e3⟩
theorem zipL_len : ∀ (xs ys : List PV), (zipL xs ys).length = min xs.length ys.length
  | [], _ => by simp [zipL]
  | _ :: _, [] => by simp [zipL]
  | x :: xs, y :: ys => by
    show (zipL xs ys).length + 1 = min (xs.length + 1) (ys.length + 1)
    rw [zipL_len xs ys]; omega
theorem src_zipL {a b : Addr} {vs ws : List V} {xs ys : List PV} {Pr : Fp} (h1 : SqL g.K G a vs) (h2 : SqL g.K G b ws) (r1 : Reps g G xs vs) (r2 : Reps g G ys ws) : SrcOk g (L2.Itz g.K a b) (zipL xs ys) Pr G H where
  go := fun G' H' m m1 kp i hi => by
    rw [zipL_len] at hi
    have l1 := r1.length
    have l2 := r2.length
    have hj : i < vs.length := by omega
    have hk : i < ws.length := by omega
    exact ⟨vs, ws, vs[i], ws[i], (m1.trans m).seq h1, (m1.trans m).seq h2, by simp [hj], by simp [hk]⟩
  stop := fun G' H' m m1 kp => ⟨vs, ws, (m1.trans m).seq h1, (m1.trans m).seq h2, by rw [zipL_len, r1.length, r2.length]; omega⟩
  yld := fun G' H' m m1 kp i x H2 y v ev => by
    obtain ⟨T, z, z2, rfl, n, rfl, y1, y2⟩ := y
    obtain ⟨a, b, e1, e2, rfl⟩ := zipL_get ev
    obtain ⟨u, eu, ru⟩ := r1.get e1
    obtain ⟨u2, eu2, ru2⟩ := r2.get e2
    have q := y1 vs ((m1.trans m).seq h1)
    rw [eu] at q; cases q
    have q := y2 ws ((m1.trans m).seq h2)
    rw [eu2] at q; cases q
    exact pair_new m n (Rep.mono m1 _ _ ru) (Rep.mono m1 _ _ ru2)
theorem src_zipT {a b : Addr} {vs ws : List V} {xs ys : List PV} {Pr : Fp} (h1 : SqT g.K G a vs) (h2 : SqT g.K G b ws) (r1 : Reps g G xs vs) (r2 : Reps g G ys ws) : SrcOk g (RZ.ItzT g.K a b) (zipL xs ys) Pr G H where
  go := fun G' H' m m1 kp i hi => by
    rw [zipL_len] at hi
    have l1 := r1.length
    have l2 := r2.length
    have hj : i < vs.length := by omega
    have hk : i < ws.length := by omega
    exact ⟨vs, ws, vs[i], ws[i], sqT_mono (m1.trans m) h1, sqT_mono (m1.trans m) h2, by simp [hj], by simp [hk]⟩
  stop := fun G' H' m m1 kp => ⟨vs, ws, sqT_mono (m1.trans m) h1, sqT_mono (m1.trans m) h2, by rw [zipL_len, r1.length, r2.length]; omega⟩
  yld := fun G' H' m m1 kp i x H2 y v ev => by
    obtain ⟨T, z, z2, rfl, n, rfl, y1, y2⟩ := y
    obtain ⟨a, b, e1, e2, rfl⟩ := zipL_get ev
    obtain ⟨u, eu, ru⟩ := r1.get e1
    obtain ⟨u2, eu2, ru2⟩ := r2.get e2
    have q := y1 vs (sqT_mono (m1.trans m) h1)
    rw [eu] at q; cases q
    have q := y2 ws (sqT_mono (m1.trans m) h2)
    rw [eu2] at q; cases q
    exact pair_new m n (Rep.mono m1 _ _ ru) (Rep.mono m1 _ _ ru2)

/-! ### targets -/
mutual
def gT (K : PySem.W.Frag) : Tg → L2.TG
  | .v i => L2.gName i
  | .t ts => L2.gTup K (lenT ts) (gTs K ts)
def gTs (K : PySem.W.Frag) : Tgs → L2.TGs
  | .nil => L2.gNil
  | .cons t ts => L2.gCons (gT K t) (gTs K ts)
def lenT : Tgs → Nat
  | .nil => 0
  | .cons _ ts => lenT ts + 1
end
theorem asg_one {e : Expr} {es : List Expr} {env : PySem.Env} (h : ∀ a b, e ≠ .Starred a b) : assignEach (e :: es) env = (false, assign e env) :: assignEach es env := by
  cases e <;> first | rfl | exact absurd rfl (h _ _)
theorem chkT_star {N : List Tx} {sc : Scope} {fnc : Str → Bool} {t : Tg} {e : Expr} (h : chkT N sc fnc t e = true) : ∀ a b, e ≠ .Starred a b := by
  intro a b q
  subst q
  cases t <;> exact ff h
mutual
theorem pg_ok {N : List Tx} {fnc : Str → Bool} (hN : X.N = N.map mkS) (nd : X.N.Nodup) (hc : X.calm = true) (hf : ∀ x, fnc x = true → X.fn x = true) : ∀ (t : Tg) (e : Expr), chkT N X.env.scope fnc t e = true → L2.PG X e (gT X.K t)
  | .v i, e, h => by
    cases e <;> first | (exact ff h) | skip
    rename_i x p
    have h : (isNm N i x && locB X.env.scope fnc x) = true := h
    rw [Bool.and_eq_true] at h
    obtain ⟨h1, h2⟩ := locB_ok h.2
    exact L2.pg_name nd (by rw [hN]; exact isNm_ok h.1) h1 (h2.imp (hf x) id)
  | .t ts, e, h => by
    cases e <;> first | (exact ff h) | skip
    rename_i es n p
    have h : chkTs N X.env.scope fnc ts es = true := h
    obtain ⟨h1, h2, h3⟩ := pgs_ok hN nd hc hf ts es h
    exact L2.pg_tup hc h1 h2 h3
theorem pgs_ok {N : List Tx} {fnc : Str → Bool} (hN : X.N = N.map mkS) (nd : X.N.Nodup) (hc : X.calm = true) (hf : ∀ x, fnc x = true → X.fn x = true) : ∀ (ts : Tgs) (es : List Expr), chkTs N X.env.scope fnc ts es = true →
    L2.PGs X es (gTs X.K ts) ∧ (assignEach es X.env).length = lenT ts ∧ (assignEach es X.env).findIdx? (·.1) = none
  | .nil, es, h => by
    cases es with
    | nil => exact ⟨L2.pgs_nil, rfl, rfl⟩
    | cons e r => exact ff h
  | .cons t ts, es, h => by
    cases es with
    | nil => exact ff h
    | cons e r =>
      have h : (chkT N X.env.scope fnc t e && chkTs N X.env.scope fnc ts r) = true := h
      rw [Bool.and_eq_true] at h
      obtain ⟨h1, h2, h3⟩ := pgs_ok hN nd hc hf ts r h.2
      have q := asg_one (es := r) (env := X.env) (chkT_star h.1)
      refine ⟨L2.pgs_cons (pg_ok hN nd hc hf t e h.1) h1 (by rw [q]; rfl), by rw [q]; show (assignEach r X.env).length + 1 = lenT ts + 1; rw [h2], by rw [q, List.findIdx?_cons, h3]; rfl⟩
end

mutual
theorem asg_of (hK : X.K = g.K) : ∀ (t : Tg) (v : PV) (x : V) (s s' : S) (σ : L2.St) (F : Nat → Fp) (Q : L2.St → Hp → Prop), RS g G H s σ F → Rep g G v x → asg t v s = some s' →
    (∀ σ' F', RS g G H s' σ' F' → σ'.length = σ.length → (∀ j, j ∉ t.slots → σ'[j]? = σ[j]?) → (∀ a, Own F' a → Own F a) → Q σ' H) → gT X.K t x σ H Q
  | .v i, v, x, s, s', σ, F, Q, R, r, e, k => by
    have e : (if i < s.length then some (s.set i (.sh v)) else none) = some s' := e
    split at e
    · rename_i hi
      cases e
      have hj : i < σ.length := by rw [← R.len]; exact hi
      refine k (σ.set i (some x)) (updF F i none_) (R.put hi ⟨fun _ z => z, x, by simp [hj], r⟩ (by simp) (fun j hne => by simp [List.getElem?_set_ne (Ne.symm hne)]) fun _ z => z.elim) (by simp) (fun j hj => ?_) fun a p => p.put
      have hne : j ≠ i := fun z => hj (by rw [z]; exact List.mem_singleton.mpr rfl)
      simp [List.getElem?_set_ne (Ne.symm hne)]
    · cases e
  | .t ts, v, x, s, s', σ, F, Q, R, r, e, k => by
    cases v with
    | tup vs =>
      obtain ⟨a, xs, rfl, h1, r⟩ := r
      have e : asgs ts vs s = some s' := e
      refine ⟨a, xs, rfl, by rw [hK]; exact sqT_mono R.sub h1, ?_, asgs_of hK ts vs xs s s' σ F Q R r e k⟩
      rw [← r.length]; exact asgs_len ts vs s s' e
    | _ => cases e
theorem asgs_len : ∀ (ts : Tgs) (vs : List PV) (s s' : S), asgs ts vs s = some s' → vs.length = lenT ts
  | .nil, [], s, s', _ => rfl
  | .nil, _ :: _, s, s', e => by cases e
  | .cons _ _, [], s, s', e => by cases e
  | .cons t ts, v :: vs, s, s', e => by
    have e : (asg t v s).bind (fun s1 => asgs ts vs s1) = some s' := e
    cases q : asg t v s with
    | none => rw [q] at e; cases e
    | some s1 =>
      rw [q] at e
      show vs.length + 1 = lenT ts + 1
      rw [asgs_len ts vs s1 s' e]
theorem asgs_of (hK : X.K = g.K) : ∀ (ts : Tgs) (vs : List PV) (xs : List V) (s s' : S) (σ : L2.St) (F : Nat → Fp) (Q : L2.St → Hp → Prop), RS g G H s σ F → Reps g G vs xs → asgs ts vs s = some s' →
    (∀ σ' F', RS g G H s' σ' F' → σ'.length = σ.length → (∀ j, j ∉ ts.slots → σ'[j]? = σ[j]?) → (∀ a, Own F' a → Own F a) → Q σ' H) → gTs X.K ts xs σ H Q
  | .nil, [], xs, s, s', σ, F, Q, R, r, e, k => by
    cases e
    exact ⟨r, k σ F R rfl (fun _ _ => rfl) fun _ p => p⟩
  | .nil, _ :: _, xs, s, s', σ, F, Q, R, r, e, k => by cases e
  | .cons _ _, [], xs, s, s', σ, F, Q, R, r, e, k => by cases e
  | .cons t ts, v :: vs, xs, s, s', σ, F, Q, R, r, e, k => by
    have e : (asg t v s).bind (fun s1 => asgs ts vs s1) = some s' := e
    cases q : asg t v s with
    | none => rw [q] at e; cases e
    | some s1 =>
      rw [q] at e
      obtain ⟨x, xr, rfl, h1, h2⟩ := r
      refine ⟨x, xr, rfl, asg_of hK t v x s s1 σ F _ R h1 q fun σ1 F1 R1 l1 n1 o1 => ?_⟩
      refine asgs_of hK ts vs xr s1 s' σ1 F1 Q R1 h2 e fun σ2 F2 R2 l2 n2 o2 => ?_
      refine k σ2 F2 R2 (l2.trans l1) (fun j hj => ?_) fun a p => o1 a (o2 a p)
      have hj : j ∉ t.slots ++ ts.slots := hj
      rw [List.mem_append, not_or] at hj
      rw [n2 j hj.2, n1 j hj.1]
end

/-! ### comprehensions -/
theorem wipe_get : ∀ (vs : List Nat) (σ : L2.St) (j : Nat), j ∉ vs → (L2.wipe σ vs)[j]? = σ[j]?
  | [], σ, j, _ => rfl
  | v :: vs, σ, j, h => by
    rw [List.mem_cons, not_or] at h
    show ((L2.wipe σ vs).set v none)[j]? = σ[j]?
    rw [List.getElem?_set_ne (Ne.symm h.1), wipe_get vs σ j h.2]
theorem wipeS_len (s : S) : ∀ vs : List Nat, (wipeS s vs).length = s.length
  | [] => rfl
  | v :: vs => by show ((wipeS s vs).set v .emp).length = _; rw [List.length_set, wipeS_len s vs]
theorem RS.wipe (R : RS g G H s σ F) : ∀ (own : List Nat), ∃ F', RS g G H (wipeS s own) (L2.wipe σ own) F' ∧ (∀ a, Own F' a → Own F a) ∧ ∀ j, j ∉ own → F' j = F j
  | [] => ⟨F, R, fun _ p => p, fun _ _ => rfl⟩
  | v :: vs => by
    obtain ⟨F', R1, k, n⟩ := R.wipe vs
    by_cases hv : v < (wipeS s vs).length
    · refine ⟨updF F' v none_, R1.put hv (show OvR g G H .emp _ none_ from fun _ z => z) (by simp [L2.wipe, L2.wipe_length]) (fun j hne => ?_) (fun _ z => z.elim), fun a p => k a p.put, fun j hj => ?_⟩
      · show ((L2.wipe σ vs).set v none)[j]? = _
        rw [List.getElem?_set_ne (Ne.symm hne)]
      · rw [List.mem_cons, not_or] at hj
        rw [updF_ne hj.1, n j hj.2]
    · have h1 : (wipeS s (v :: vs)) = wipeS s vs := by
        show (wipeS s vs).set v .emp = _
        rw [List.set_eq_of_length_le (Nat.le_of_not_lt hv)]
      have h2 : L2.wipe σ (v :: vs) = L2.wipe σ vs := by
        show (L2.wipe σ vs).set v none = _
        rw [List.set_eq_of_length_le]
        rw [← R1.len]; exact Nat.le_of_not_lt hv
      rw [h1, h2]
      exact ⟨F', R1, k, fun j hj => n j fun z => hj (List.mem_cons_of_mem _ z)⟩
theorem back_get {s1 : S} : ∀ (own : List Nat) (s2 : S) (j : Nat), s2.length = s1.length → getO (back s1 own s2) j = if j ∈ own then getO s1 j else getO s2 j
  | [], s2, j, _ => by simp [back]
  | v :: vs, s2, j, h => by
    have hl : (back s1 vs s2).length = s2.length := by
      clear h
      induction vs with
      | nil => rfl
      | cons w ws ih => show ((back s1 ws s2).set w _).length = _; rw [List.length_set, ih]
    show getO ((back s1 vs s2).set v (getO s1 v)) j = _
    by_cases hv : v < s2.length
    · rw [getO_set (by rw [hl]; exact hv)]
      by_cases e : j = v
      · subst e; simp
      · rw [if_neg e, back_get vs s2 j h]
        simp [e]
    · rw [List.set_eq_of_length_le (by rw [hl]; exact Nat.le_of_not_lt hv), back_get vs s2 j h]
      by_cases e : j = v
      · subst e
        have h1 : getO s1 j = .emp := getO_out (by rw [← h]; exact Nat.le_of_not_lt hv)
        have h2 : getO s2 j = .emp := getO_out (Nat.le_of_not_lt hv)
        simp [h1, h2]
      · simp [e]
theorem back_len {s1 : S} (s2 : S) : ∀ own : List Nat, (back s1 own s2).length = s2.length
  | [] => rfl
  | w :: ws => by show ((back s1 ws s2).set w _).length = _; rw [List.length_set, back_len s2 ws]

theorem wipe_in : ∀ (vs : List Nat) (σ : L2.St) (j : Nat), j ∈ vs → j < σ.length → (L2.wipe σ vs)[j]? = some none
  | [], σ, j, h, _ => by cases h
  | v :: vs, σ, j, h, hl => by
    show ((L2.wipe σ vs).set v none)[j]? = some none
    by_cases e : j = v
    · subst e; rw [List.getElem?_set_self (by rw [L2.wipe_length]; exact hl)]
    · rw [List.getElem?_set_ne (Ne.symm e)]
      rcases List.mem_cons.mp h with z | z
      · exact absurd z e
      · exact wipe_in vs σ j z hl
theorem wipe_eq {σ' : L2.St} {own : List Nat} (hl : σ'.length = σ.length) (h : ∀ j, j ∉ own → σ'[j]? = σ[j]?) : L2.wipe σ' own = L2.wipe σ own := by
  refine List.ext_getElem? fun j => ?_
  by_cases hj : j ∈ own
  · by_cases hk : j < σ.length
    · rw [wipe_in own σ' j hj (by rw [hl]; exact hk), wipe_in own σ j hj hk]
    · rw [List.getElem?_eq_none (by rw [L2.wipe_length, hl]; exact Nat.le_of_not_lt hk), List.getElem?_eq_none (by rw [L2.wipe_length]; exact Nat.le_of_not_lt hk)]
  · rw [wipe_get own σ' j hj, wipe_get own σ j hj, h j hj]
theorem wipe_idem (own : List Nat) : L2.wipe (L2.wipe σ own) own = L2.wipe σ own := wipe_eq (L2.wipe_length σ own) fun j hj => wipe_get own σ j hj
theorem wipeS_get : ∀ (vs : List Nat) (s : S) (j : Nat), j ∉ vs → getO (wipeS s vs) j = getO s j
  | [], s, j, _ => rfl
  | v :: vs, s, j, h => by
    rw [List.mem_cons, not_or] at h
    show getO ((wipeS s vs).set v .emp) j = _
    by_cases hv : v < (wipeS s vs).length
    · rw [getO_set hv, if_neg h.1, wipeS_get vs s j h.2]
    · rw [List.set_eq_of_length_le (Nat.le_of_not_lt hv), wipeS_get vs s j h.2]
theorem OvR.plain {G' H' : Hp} {o : OV} {w : Option (Option V)} {P : Fp} (h : OvR g G H o w P) (n : o.own = false) (m : Same G G') : OvR g G' H' o w none_ := by
  cases o with
  | emp => exact fun _ z => z
  | sh v =>
    obtain ⟨_, x, e, r⟩ := h
    exact ⟨fun _ z => z, x, e, Rep.mono m _ _ r⟩
  | lst xs => cases n
  | obj c fs => cases n

/-- the list that is walked, if it is an own one, is locked -/
structure Locked (g : Gm) (σ : L2.St) (J : L2.It) (xs : List PV) (lk : Lk) (s1 : S) (F1 Fl : Nat → Fp) (Pr : Fp) (G1 H1 : Hp) : Prop where
  rs : RS g G1 H1 (lockO lk s1) σ Fl
  sub : ∀ a, Own Fl a → Own F1 a
  src : SrcOk g J xs Pr G1 H1
  pr : ∀ a, Pr a → Own F1 a ∧ ¬ Own Fl a ∧ G1 a = none ∧ ∃ o, H1 a = some o
  at_ : ∀ i ov, lk = some (i, ov) → i < s1.length ∧ ov.own = true ∧ getO s1 i = ov ∧ OvR g G1 H1 ov σ[i]? Pr
  no : lk = none → ∀ a, ¬ Pr a
theorem lock_of {J : L2.It} {xs : List PV} {lk : Lk} {s1 : S} {F1 : Nat → Fp} {G1 H1 : Hp} {P : Fp} (R1 : RS g G1 H1 s1 σ F1) (h : RlS g σ s1 G1 H1 (xs, lk) J P) : ∃ Fl Pr, Locked g σ J xs lk s1 F1 Fl Pr G1 H1 := by
  obtain ⟨_, h⟩ := h
  cases lk with
  | none => exact ⟨F1, none_, R1, fun _ p => p, h, fun _ z => z.elim, (fun i ov e => by cases e), fun _ _ z => z⟩
  | some p =>
    obtain ⟨i, ov⟩ := p
    obtain ⟨e1, e2, e3, h⟩ := h
    subst e1
    have hat := R1.at_ i e3
    have R2 : RS g G1 H1 (s1.set i .emp) σ (updF F1 i none_) := R1.put0 e3 (show OvR g G1 H1 .emp _ none_ from fun _ z => z) fun a z => z.elim
    refine ⟨_, F1 i, R2, fun a p => p.put, h _ hat, fun a p => ⟨⟨i, p⟩, fun z => ?_, R1.fr i a p, hat.there p⟩, fun j ov e => ?_, fun e => by cases e⟩
    · rcases own_updF z with z | ⟨j, hj, z⟩
      · exact z
      · exact hj (R1.dis j i a z p)
    · cases e
      exact ⟨e3, e2, rfl, hat⟩
/-- the lock is opened behind the walk -/
theorem unlock_of {J : L2.It} {xs : List PV} {lk : Lk} {s1 s2 : S} {F1 Fl Fx : Nat → Fp} {Pr : Fp} {G1 H1 : Hp} {σ' : L2.St} {A' : Fp} (L : Locked g σ J xs lk s1 F1 Fl Pr G1 H1) (R : RS g G H s2 σ' Fx) (t : Stp G1 H1 (Own Fl) G H A') (sub : ∀ a, Own Fx a → A' a)
    (hσ : ∀ i ov, lk = some (i, ov) → i < s2.length ∧ σ'[i]? = σ[i]?) : ∃ F', RS g G H (unlock lk s2) σ' F' ∧ (∀ a, Own F' a → Own Fx a ∨ Pr a) := by
  cases lk with
  | none => exact ⟨Fx, R, fun a p => .inl p⟩
  | some p =>
    obtain ⟨i, ov⟩ := p
    obtain ⟨hi, ho, he, hat⟩ := L.at_ i ov rfl
    obtain ⟨hi2, hs⟩ := hσ i ov rfl
    have hat2 : OvR g G H ov σ'[i]? Pr := by
      rw [hs]
      exact hat.stp t fun a p => (L.pr a p).2.1
    refine ⟨updF Fx i Pr, R.put0 hi2 hat2 fun a p => ⟨hat.free t (fun b q => (L.pr b q).2.1) p (L.pr a p).2.2.1, fun j _ q => ?_⟩, fun a p => ?_⟩
    · rcases t.fnew a (sub a ⟨j, q⟩) with z | z
      · exact (L.pr a p).2.1 z
      · obtain ⟨u, hu⟩ := (L.pr a p).2.2.2
        rw [hu] at z; cases z
    · rcases own_updF p with z | ⟨j, _, z⟩
      · exact .inr z
      · exact .inl ⟨j, z⟩
/-- another object of ours is written -/
theorem RS.other {D : Addr} {u : HO} (R : RS g G H s σ F) (n : ¬ Own F D) (k : G D = none) : RS g G (upd H D u) s σ F where
  len := R.len
  at_ := fun i hi => (R.at_ i hi).frame (Same.refl _) fun a v p e => by rw [upd_ne (fun z => n (by rw [← z]; exact ⟨i, p⟩))]; exact e
  dis := R.dis
  fr := R.fr
  out := R.out
  sub := fun a v e => by rw [upd_ne (L2.ne_of_none e k)]; exact R.sub a v e

/-- what a comprehension's turn does -/
def Body (g : Gm) (K : PySem.W.Frag) (own : List Nat) (tg : Tg) (tt : L2.TT) (te : L2.TE) (body : PV → S → Res (Option PV)) : Prop :=
  ∀ (v : PV) (x : V) (s1 : S) (σ1 : L2.St) (G H : Hp) (F : Nat → Fp) (K1 : V → Hp → Prop) (K2 : Hp → Prop), RS g G H s1 σ1 F → Rep g G v x →
    (match body v s1 with
      | .ok (some y) s2 => ∀ G' H' F' σ2 z, Stp G H (Own F) G' H' (Own F') → RS g G' H' s2 σ2 F' → L2.wipe σ2 own = L2.wipe σ1 own → Rep g G' y z → K1 z H'
      | .ok none s2 => ∀ G' H' F' σ2, Stp G H (Own F) G' H' (Own F') → RS g G' H' s2 σ2 F' → L2.wipe σ2 own = L2.wipe σ1 own → K2 H'
      | _ => False) →
    gT K tg x σ1 H fun σ2 H2 => L2.wipe σ2 own = L2.wipe σ1 own ∧ tt σ2 H2 fun b H3 => if b = true then te σ2 H3 K1 else K2 H3
theorem comp_of {own : List Nat} {tg : Tg} {tt : L2.TT} {te : L2.TE} {body : PV → S → Res (Option PV)} {fs : S → Res (List PV × Lk)} {Q : VK} {K : PySem.W.Frag} (hb : Body g K own tg tt te body) (h : T g W (RlO g) (fun s => compR own body (fs s)) σ H Q) :
    L2.tLc (TI g W fs) (gT K tg) tt te own σ H Q := by
  obtain ⟨G, s, F, R, p⟩ := h
  refine ⟨G, s, F, R, (Post.bind (Rl := RlS g) p).imp fun J H1 q => ?_⟩
  obtain ⟨G1, s1, F1, ⟨xs, lk⟩, P, t1, R1, d1, src, p1⟩ := q
  intro D hD
  have p1 : Post g W σ G1 H1 (fun c => P c ∨ Own F1 c) (RlO g) Q (if (plainAt s1 own && decide (xs.length ≤ big)) = true then
    (compL own body xs [] (wipeS (lockO lk s1) own)).bind fun ys s2 => .ok (.lst ys) (unlock lk (back s1 own s2)) else .bad) := p1
  cases hc : (plainAt s1 own && decide (xs.length ≤ big)) with
  | false => rw [hc, if_neg Bool.false_ne_true] at p1; exact p1.elim
  | true =>
    rw [hc, if_pos rfl] at p1
    rw [Bool.and_eq_true, decide_eq_true_eq] at hc
    obtain ⟨hpl, hbig⟩ := hc
    obtain ⟨Fl, Pr, L⟩ := lock_of R1 src
    obtain ⟨Fw, Rw, kw, _⟩ := L.rs.wipe own
    cases hr : compL own body xs [] (wipeS (lockO lk s1) own) with
    | bad => rw [hr] at p1; exact p1.elim
    | exc e s2 =>
      -- a comprehension lets no exception out
      exfalso
      have no : ∀ (l acc : List PV) (s : S), compL own body l acc s ≠ .exc e s2 := by
        intro l
        induction l with
        | nil => intro acc s z; cases z
        | cons x l ih =>
          intro acc s z
          unfold compL at z
          split at z
          · exact ih _ _ z
          · exact ih _ _ z
          · cases z
          · cases z
      exact no _ _ _ hr
    | ok ys s2 =>
      rw [hr] at p1
      have p1 : Post g W σ G1 H1 (fun c => P c ∨ Own F1 c) (RlO g) Q (.ok (.lst ys) (unlock lk (back s1 own s2))) := p1
      have H1D : ∀ a o, H1 a = some o → a ≠ D := fun a o e => L2.ne_of_none e hD
      have G1D : G1 D = none := R1.sub.free hD
      let Iv : Nat → Hp → Prop := fun i Hx => ∃ Gx sx Fx acc vs, RS g Gx Hx (wipeS sx own) (L2.wipe σ own) Fx ∧ Stp G1 H1 (Own Fl) Gx Hx (fun c => c = D ∨ Own Fx c) ∧ Hx D = some (.lst vs) ∧ Gx D = none ∧ ¬ Own Fx D ∧ Reps g Gx acc vs ∧ acc.length ≤ i ∧ compL own body (xs.drop i) acc sx = .ok ys s2
      refine ⟨fun i m Hx => m = xs.length - i ∧ i ≤ xs.length ∧ Iv i Hx, ⟨xs.length, by simp, Nat.zero_le _, ?_⟩, ?_⟩
      · -- start
        obtain ⟨Fw2, Rw2, kw2, _⟩ := Rw.wipe own
        rw [wipe_idem] at Rw2
        have nD : ¬ Own Fw2 D := fun z => by
          obtain ⟨u, hu⟩ := Rw2.no z
          rw [hD] at hu; cases hu
        refine ⟨G1, wipeS (lockO lk s1) own, Fw2, [], [], Rw2.new hD, (Stp.new hD).sub fun a z => z.imp id fun z => kw a (kw2 a z), upd_same, G1D, nD, Reps.nil, Nat.le_refl _, ?_⟩
        rw [List.drop_zero]; exact hr
      · rintro i m Hx ⟨rfl, hi, Gx, sx, Fx, acc, vs, Rx, tx, hxD, gxD, nD, ra, la, hcomp⟩
        have keepPr : ∀ a o, Pr a → H1 a = some o → Hx a = some o := fun a o pa e => tx.keep a o e (L.pr a pa).2.1
        by_cases hlt : i < xs.length
        · -- a turn
          refine .inr ⟨L.src.go Gx Hx Rx.sub tx.g keepPr i hlt, Iv (i + 1), fun H' p' => ⟨xs.length - (i + 1), by omega, rfl, hlt, p'⟩, fun x H' y => ?_⟩
          have hxi : xs[i]? = some xs[i] := List.getElem?_eq_getElem hlt
          obtain ⟨G2, m2, t2, r2⟩ := L.src.yld Gx Hx Rx.sub tx.g keepPr i x H' y _ hxi
          have R2 : RS g G2 H' (wipeS sx own) (L2.wipe σ own) Fx := Rx.stp t2 (fun _ _ z => z) m2
          have h2D : H' D = some (.lst vs) := t2.keep D _ hxD fun z => z
          have g2D : G2 D = none := by
            cases e : G2 D with
            | none => rfl
            | some o =>
              rcases t2.gnew D o e gxD with z | z
              · exact z.elim
              · rw [hxD] at z; cases z
          rw [List.drop_eq_getElem_cons hlt] at hcomp
          have t2' : Stp Gx Hx (fun c => c = D ∨ Own Fx c) G2 H' (fun c => c = D ∨ Own Fx c) := ⟨t2.g, fun a o e _ => t2.keep a o e fun z => z, fun a o e k => (t2.gnew a o e k).elim (fun z => z.elim) .inr, fun a z => .inl z⟩
          have key := hb (xs[i]) x (wipeS sx own) (L2.wipe σ own) G2 H' Fx (fun y H4 => ∃ acc, H4 D = some (.lst acc) ∧ acc.length < sizeLine ∧ Iv (i + 1) (upd H4 D (.lst (acc ++ [y])))) (Iv (i + 1)) R2 r2
          have keepD : ∀ {G4 H4 : Hp} {F4 : Nat → Fp}, Stp G2 H' (Own Fx) G4 H4 (Own F4) → H4 D = some (.lst vs) ∧ G4 D = none ∧ ¬ Own F4 D := by
            intro G4 H4 F4 t
            refine ⟨t.keep D _ h2D nD, ?_, fun z => ?_⟩
            · cases e : G4 D with
              | none => rfl
              | some o =>
                rcases t.gnew D o e g2D with z | z
                · exact absurd z nD
                · rw [h2D] at z; cases z
            · rcases t.fnew D z with z | z
              · exact nD z
              · rw [h2D] at z; cases z
          have lift : ∀ {G4 H4 : Hp} {F4 : Nat → Fp}, Stp G2 H' (Own Fx) G4 H4 (Own F4) → Stp G1 H1 (Own Fl) G4 H4 (fun c => c = D ∨ Own F4 c) := by
            intro G4 H4 F4 t
            refine (tx.trans t2').trans ?_
            refine ⟨t.g, fun a o e n => t.keep a o e fun z => n (.inr z), fun a o e k => (t.gnew a o e k).imp .inr id, fun a z => ?_⟩
            rcases z with z | z
            · exact .inl (.inl z)
            · exact (t.fnew a z).imp .inr id
          rw [wipe_idem] at key
          refine key ?_
          unfold compL at hcomp
          split at hcomp
          · rename_i y s' hbody
            rw [hbody]
            intro G4 H4 F4 σ4 z t R4 hw r4
            obtain ⟨d1, d2, d3⟩ := keepD t
            have hlen : vs.length < sizeLine := by
              rw [← ra.length, ← big_eq]; omega
            refine ⟨vs, d1, hlen, ?_⟩
            obtain ⟨F5, R5, k5, _⟩ := R4.wipe own
            rw [hw] at R5
            have n5 : ¬ Own F5 D := fun z => d3 (k5 D z)
            have tl := lift t
            refine ⟨G4, s', F5, acc ++ [y], vs ++ [z], R5.other n5 d2, ⟨tl.g, fun a o e n => ?_, fun a o e k => tl.gnew a o e k, fun a z => tl.fnew a (z.imp id (k5 a))⟩, upd_same, d2, n5, (Reps.mono (t2.g.trans t.g) _ _ ra).append (Reps.cons r4 Reps.nil), by simp; omega, hcomp⟩
            rw [upd_ne (H1D a o e)]
            exact tl.keep a o e n
          · rename_i s' hbody
            rw [hbody]
            intro G4 H4 F4 σ4 t R4 hw
            obtain ⟨d1, d2, d3⟩ := keepD t
            obtain ⟨F5, R5, k5, _⟩ := R4.wipe own
            rw [hw] at R5
            have n5 : ¬ Own F5 D := fun z => d3 (k5 D z)
            exact ⟨G4, s', F5, acc, vs, R5, (lift t).sub fun a z => z.imp id (k5 a), d1, d2, n5, Reps.mono (t2.g.trans t.g) _ _ ra, by omega, hcomp⟩
          · cases hcomp
          · cases hcomp
        · -- the end
          have e : i = xs.length := by omega
          subst e
          refine .inl ⟨L.src.stop Gx Hx Rx.sub tx.g keepPr, ?_⟩
          rw [List.drop_length] at hcomp
          have hcomp : (Res.ok acc sx : Res (List PV)) = .ok ys s2 := hcomp
          injection hcomp with e1 e2
          subst e1
          subst e2
          have hl2 : sx.length = σ.length := by have := Rx.len; rwa [wipeS_len, L2.wipe_length] at this
          have hl1 : s1.length = σ.length := R1.len
          -- the comprehension's own names come back
          let Fb : Nat → Fp := fun j => if j ∈ own then none_ else Fx j
          have ownFb : ∀ a, Own Fb a → Own Fx a := fun a ⟨j, p⟩ => by
            by_cases hj : j ∈ own
            · have p : (if j ∈ own then none_ else Fx j) a := p
              rw [if_pos hj] at p; exact p.elim
            · have p : (if j ∈ own then none_ else Fx j) a := p
              rw [if_neg hj] at p; exact ⟨j, p⟩
          have FbIn : ∀ j a, Fb j a → j ∉ own ∧ Fx j a := fun j a p => by
            have p : (if j ∈ own then none_ else Fx j) a := p
            by_cases hj : j ∈ own
            · rw [if_pos hj] at p; exact p.elim
            · rw [if_neg hj] at p; exact ⟨hj, p⟩
          have Rb : RS g Gx Hx (back s1 own sx) σ Fb := by
            refine ⟨by rw [back_len, hl2], fun j hj => ?_, fun a b c p q => Rx.dis a b c (FbIn a c p).2 (FbIn b c q).2, fun j a p => Rx.fr j a (FbIn j a p).2, fun j a p => ?_, Rx.sub⟩
            · rw [back_len] at hj
              rw [back_get own sx j (by rw [hl2, hl1])]
              by_cases hjo : j ∈ own
              · rw [if_pos hjo]
                have hj1 : j < s1.length := by rw [hl1, ← hl2]; exact hj
                have hown : (getO s1 j).own = false := by
                  have := List.all_eq_true.mp hpl j hjo
                  simpa using this
                have e : Fb j = none_ := if_pos hjo
                rw [e]
                exact (R1.at_ j hj1).plain hown tx.g
              · rw [if_neg hjo]
                have e : Fb j = Fx j := if_neg hjo
                rw [e]
                have q := Rx.at_ j (by rw [wipeS_len]; exact hj)
                rw [wipeS_get own sx j hjo, wipe_get own σ j hjo] at q
                exact q
            · have := Rx.out j a (FbIn j a p).2
              rw [wipeS_len] at this
              rw [back_len]; exact this
          obtain ⟨F', R', k'⟩ := unlock_of L Rb tx (fun a z => .inr (ownFb a z)) fun j ov e => ⟨by
            obtain ⟨h1, _⟩ := L.at_ j ov e
            rw [back_len, hl2, ← hl1]; exact h1, rfl⟩
          refine p1 Gx Hx F' (fun a => a = D) (.ref D) ((tx.sup fun a z => .inr (L.sub a z)).sub' fun a z => ?_) R' (fun c e => ?_) ⟨D, vs, rfl, fun _ => Iff.rfl, hxD, ra⟩
          · rcases z with z | z
            · exact .inl (.inl z)
            · rcases k' a z with z | z
              · exact .inl (.inr (ownFb a z))
              · exact .inr (.inr (L.pr a z).1)
          · subst e
            refine ⟨gxD, fun z => ?_⟩
            rcases k' _ z with z | z
            · exact nD (ownFb _ z)
            · obtain ⟨u, hu⟩ := (L.pr _ z).2.2.2
              rw [hD] at hu; cases hu
end
end PF
set_option Elab.async false
set_option linter.all false
set_option maxRecDepth 100000
set_option maxHeartbeats 2000000
/-! PF, part h: enumerate over a tuple; sources of either kind; more tools. -/
namespace PySem
open Sem (wp)
open AutoSeq1 (wpAny_loadPart')
theorem pf_meets_enumT (l : Addr) (items : Array Value) :
    Meets (Builtin.«enumerate.__new__» ⟨[.type "enumerate", .ref l], []⟩) (fun _ R s => s.heap.IsTuple l items ∧
      R (.ok (.ret (.ref (s.heap.push { cls := .type "tuple_iterator", data := .fields #[.ref l, .int 0 0] }).objs.size)))
        { s with heap := (s.heap.push { cls := .type "tuple_iterator", data := .fields #[.ref l, .int 0 0] }).push { cls := .type "enumerate", data := .fields #[.none, .bool false, .ref s.heap.objs.size, rawInt 0, .none, .none] } }) :=
  .of_wp fun prog w A R s h => by
    obtain ⟨hp, g, d, tk, os⟩ := s; obtain ⟨hL, h⟩ := h
    have hsub := sub_enumerate
    have q1 : ∀ {A' : Around} {E : Value → Shared → Prop} {Q : Value → Shared → Prop}, Q (.ref hp.objs.size) ⟨(hp.push { cls := .type "tuple_iterator", data := .fields #[.ref l, .int 0 0] }), g, d, tk, os⟩ → wpAny (model prog w) A' (pyIter (.ref l)) Q E ⟨hp, g, d, tk, os⟩ :=
      fun q => wpAny_pyIter_tuple hL q
    wp_walk using q1
    refine wpAny_stack_any fun st => wpAny_pure ?_
    split
    · rename_i c _ _ _ _ _
      cases (c == Value.type "enumerate")
      · wp_walk using q1
        exact ⟨_, rfl, h⟩
      · wp_walk using q1
        exact ⟨_, rfl, h⟩
    · wp_walk using q1
      exact ⟨_, rfl, h⟩
section
variable {prog : Program} {w : World} {A : Around} {E : Value → Shared → Prop} {s : Shared}
theorem pf_call_enumT {l : Addr} {items : Array Value} {Q : Value → Shared → Prop} (hL : s.heap.IsTuple l items)
    (h : ∀ h', IsEnum h' (s.heap.objs.size + 1) s.heap.objs.size 0 .none → h'.IsTupleIter s.heap.objs.size l 0 → h'.objs.size = s.heap.objs.size + 2 →
      (∀ b o, s.heap.get? b = some o → h'.get? b = some o) → Q (.ref (s.heap.objs.size + 1)) { s with heap := h' }) :
    wpAny (model prog w) A (call (.type "enumerate") [.ref l]) Q E s := by
  refine callType_new F.called_enumerate (by decide) (F.typeCall_enumerate_1 _) (F.newCall_enumerate_1 _) (fun obj => F.args_object_init_2 obj _) F.entry_enumerate_new
    (pf_meets_enumT l items) ⟨hL, ?_⟩
  have hz : (s.heap.push { cls := .type "tuple_iterator", data := .fields #[.ref l, .int 0 0] }).objs.size = s.heap.objs.size + 1 := Heap.size_push ..
  show _ ∧ _
  rw [hz]
  have he : IsEnum ((s.heap.push { cls := .type "tuple_iterator", data := .fields #[.ref l, .int 0 0] }).push
      { cls := .type "enumerate", data := .fields #[.none, .bool false, .ref s.heap.objs.size, rawInt 0, .none, .none] }) (s.heap.objs.size + 1) s.heap.objs.size 0 .none := by
    have := Heap.get?_push_size (s.heap.push { cls := .type "tuple_iterator", data := .fields #[.ref l, .int 0 0] })
      (o := { cls := .type "enumerate", data := .fields #[.none, .bool false, .ref s.heap.objs.size, rawInt 0, .none, .none] }) rfl
    rw [hz] at this; exact this
  refine ⟨⟨_, he, rfl⟩, h _ he ⟨_, Heap.get?_push_of_some _ (Heap.get?_push_size _ rfl), rfl, rfl⟩ (by rw [Heap.size_push, hz]) fun b o x => Heap.get?_push_of_some _ (Heap.get?_push_of_some _ x)⟩
end
end PySem

namespace PF
open PySem PySem.Spec PyProof.Rows
open L2
/-- enumerate(tuple) -/
def IteT (K : PySem.W.Frag) (a : Addr) : It :=
  ⟨fun i H => ∃ (xs : List V) (x : V), SqT K H a xs ∧ xs[i]? = some x, fun i H v H' => ∃ T x, v = .ref T ∧ H T = none ∧ H' = upd H T (.tup [.int (i : Nat), x]) ∧ ∀ xs, SqT K H a xs → xs[i]? = some x, fun i H => ∃ xs : List V, SqT K H a xs ∧ xs.length = i⟩
theorem turn_enumT {P : Program} {w : World} {K : PySem.W.Frag} {elts : List Expr} {kk : Nat} {tpos : Pos} (a e it : Addr) :
    Turn P w K (.Tuple elts kk tpos) (IteT K a) [e, it] e (fun i h => (∃ old, IsEnum h e it ((i : Nat) : Int) old) ∧ h.IsTupleIter it a i ∧ e ≠ it ∧ a ≠ it ∧ a ≠ e) where
  mem := by simp
  obj := fun i h st b hb => by
    obtain ⟨⟨old, he⟩, ⟨o, ho, hc, hd⟩, _⟩ := st
    have e' : b = e ∨ b = it := by simpa using hb
    rcases e' with z | z
    · rw [z]; exact ⟨_, he, fun v q => nomatch q⟩
    · rw [z]; exact ⟨o, ho, fun v q => by rw [hd] at q; cases q⟩
  keep := fun i h h' st k => let ⟨⟨old, he⟩, hi, hne⟩ := st; ⟨⟨old, k e (by simp) _ he⟩, hi.at fun o q => k it (by simp) o q, hne⟩
  item := by
    intro X hP hw hK hc i pins s σ H E I hf st hg
    subst hP hw hK
    obtain ⟨⟨old, he⟩, hit, hne, hai, hae⟩ := st
    obtain ⟨xs, x, hq, hx⟩ := hg
    obtain ⟨its, rv, p, hz⟩ := I.tuple hq
    obtain ⟨u, hu, ru⟩ := rv.get hx
    have hel : e < s.heap.objs.size := Heap.lt_size he
    have hil : it < s.heap.objs.size := by obtain ⟨_, q, _⟩ := hit; exact Heap.lt_size q
    have D := PySem.Draws.tuple (prog := X.prog) (w := X.w) (A := X.A.in1) (show X.A.in1.handled = none from (I.ok.hd hc)) it a hai its.toArray
    have hlt : i < its.toArray.size := by
      have hl := (List.getElem?_eq_some_iff.mp hu).1
      simpa using hl
    refine wpAny_pyNext_enum_itemD D he ⟨hit, p⟩ hlt hne (by simp; exact ⟨hne, fun z => hae z.symm⟩) fun y h' tk hP ho hst hT hsz hk => ?_
    have hy : u = y := by
      have z : its.toArray[i]? = some y := hP
      have z2 : its.toArray[i]? = some u := by simpa using hu
      rw [z2] at z; exact Option.some.inj z
    subst hy
    refine ⟨_, rfl, wpAny_letOwnedTupleGo_enum (s := { s with heap := h', toks := tk + 1 }) ho fun h'' he' sb => ?_⟩
    have hT2 : h''.get? s.heap.objs.size = some { cls := .type "tuple", data := .seq #[.int i tk, u] } := (sb.2 _ (Nat.ne_of_gt hel)).trans hT
    have new : ObjOk X.prog X.w (upd H s.heap.objs.size (.tup [.int (i : Nat), x])) h'' s.heap.objs.size (.tup [.int (i : Nat), x]) :=
      ⟨by show 2 ≤ sizeLine; decide, [.int i tk, u], .cons ⟨_, rfl⟩ (.cons ru .nil), ⟨_, hT2, rfl, _, rfl⟩⟩
    have I1 : Inv X pins σ (upd H s.heap.objs.size (.tup [.int (i : Nat), x])) { s with heap := h'', toks := tk + 1 } :=
      I.turnedNew (ch := [e, it]) (fun b ob hb q => (sb.2 b (fun z => hb (by simp [z]))).trans (hk b ob (fun z => hb (by simp [z])) (fun z => hb (by simp [z])) q)) hf (Nat.le_refl _) new
    refine ⟨.ref s.heap.objs.size, _, I1, rfl, ⟨_, x, rfl, I.hok.fresh (Nat.le_refl _), rfl, fun ys hy => ?_⟩, ⟨⟨u, ?_⟩, hst.1.at fun o q => (sb.2 it (Ne.symm hne)).trans q, hne, hai, hae⟩, fun b hb => ?_⟩
    · rw [I.tuple_inj hy hq]; exact hx
    · have e1 : ((i + 1 : Nat) : Int) = (i : Int) + 1 := by omega
      rw [e1]; exact he'
    · have hb' : b < s.heap.objs.size := by
        have e' : b = e ∨ b = it := by simpa using hb
        rcases e' with z | z
        · rw [z]; exact hel
        · rw [z]; exact hil
      rw [upd_ne (Nat.ne_of_lt hb')]
      exact (hf b hb).1
  done := by
    intro X hP hw hK hc i pins s σ H E I hf st hg
    subst hP hw hK
    obtain ⟨⟨old, he⟩, hit, hne, hai, hae⟩ := st
    obtain ⟨xs, hq, hx⟩ := hg
    obtain ⟨its, rv, p, hz⟩ := I.tuple hq
    obtain ⟨f0, f1, f2, f3, f4, f5⟩ := hf it (by simp)
    have hl := rv.length
    have D := PySem.Draws.tuple (prog := X.prog) (w := X.w) (A := X.A.in1) (show X.A.in1.handled = none from (I.ok.hd hc)) it a hai its.toArray
    have hn : its.toArray.size = i := by simp; omega
    refine wpAny_pyNext_enum_endD D he (show _ ∧ _ from by rw [hn]; exact ⟨hit, p⟩) fun h' eb => ⟨rfl, I.turned (t' := s.toks) (fun b o hb q => eb b o hb q) f0 f1 f3 f4 f5⟩
  self := fun A i s Q E st h => let ⟨⟨_, he⟩, _⟩ := st; wpAny_pyIter_enum he h
def iEnumA (K : PySem.W.Frag) (ta : TA) : L2.TI := fun σ H R => ta σ H fun vs H1 => ∃ a xs, vs = [.ref a] ∧ ((SqL K H1 a xs ∧ R (Ite K a) H1) ∨ (SqT K H1 a xs ∧ R (IteT K a) H1))
theorem pi_enumA {X : Cx} {e : Expr} {ta : TA} {p pos tpos : Pos} {elts : List Expr} {kk : Nat} (hg : Gl X "enumerate") (hm : X.mg "enumerate" = none) (ha : PA X [e] ta) (hs : starEach [e] X.env = [(false, eval e X.env)]) :
    PI X (.Tuple elts kk tpos) (.Call (.Name "enumerate" p) [e] [] pos) (iEnumA X.K ta) := by
  refine ⟨fun pins s σ H R I h => ?_⟩
  refine Call_ (ld_blt I hg hm boot_enumerate (PyProof.Rows.callWith_type1 (thn (ha.run pos pins s σ H _ I h) fun us s1 ⟨vs, H1, I1, r1, q1⟩ => ?_) hs rfl))
  obtain ⟨a, xs, ex, hq⟩ := q1
  subst ex
  have fr : ∀ b ∈ [s1.heap.objs.size + 1, s1.heap.objs.size], FpOk X pins H1 b := fun b hb => by
    have e' : b = s1.heap.objs.size + 1 ∨ b = s1.heap.objs.size := by simpa using hb
    have hle : s1.heap.objs.size ≤ b := by
      rcases e' with z | z
      · rw [z]; exact Nat.le_add_right _ _
      · rw [z]; exact Nat.le_refl _
    exact I1.fpOk hle (I1.hok.fresh hle)
  cases r1 with
  | cons r rr =>
    cases rr
    cases r
    rcases hq with ⟨hq, q⟩ | ⟨hq, q⟩
    · obtain ⟨its, rv, p', hz⟩ := I1.list hq
      refine call_enumerate_list p'.isList fun h' he hit hsz hk => wpAny_pyIter_enum he ?_
      have I2 : Inv X pins σ H1 { s1 with heap := h' } := I1.kept (t' := s1.toks) hk
      exact ⟨s1.heap.objs.size + 1, [s1.heap.objs.size + 1, s1.heap.objs.size], _, _, H1, rfl, I2, turn_enum a (s1.heap.objs.size + 1) s1.heap.objs.size, ⟨⟨.none, he⟩, hit, Nat.succ_ne_self _⟩, fr, q⟩
    · obtain ⟨its, rv, p', hz⟩ := I1.tuple hq
      obtain ⟨o1, ho1, _⟩ := id p'
      have hlt : a < s1.heap.objs.size := Heap.lt_size ho1
      refine pf_call_enumT (show s1.heap.IsTuple a its.toArray from p') fun h' he hit hsz hk => wpAny_pyIter_enum he ?_
      have I2 : Inv X pins σ H1 { s1 with heap := h' } := I1.kept (t' := s1.toks) hk
      exact ⟨s1.heap.objs.size + 1, [s1.heap.objs.size + 1, s1.heap.objs.size], _, _, H1, rfl, I2, turn_enumT a (s1.heap.objs.size + 1) s1.heap.objs.size, ⟨⟨.none, he⟩, hit, Nat.succ_ne_self _, Nat.ne_of_lt hlt, Nat.ne_of_lt (Nat.lt_succ_of_lt hlt)⟩, fr, q⟩
/-- a list or a tuple, walked -/
def iSeq (K : PySem.W.Frag) (tl : TE) : L2.TI := fun σ H R => tl σ H fun x H1 => ∃ a xs, x = .ref a ∧ ((SqL K H1 a xs ∧ R (Itl K a) H1) ∨ (SqT K H1 a xs ∧ R (Itt K a) H1))
theorem pi_seq {X : Cx} {tg l : Expr} {tl : TE} (hl : PE X l tl) : PI X tg l (iSeq X.K tl) := by
  refine ⟨fun pins s σ H R I h => ?_⟩
  refine thn (hl.run pins s σ H _ I h) fun v s1 ⟨x, H1, I1, r1, q1⟩ => ?_
  obtain ⟨a, xs, e, hq⟩ := q1
  subst e
  cases r1
  have fr : ∀ b ∈ [s1.heap.objs.size], FpOk X pins H1 b := fun b hb => by
    have e : b = s1.heap.objs.size := by simpa using hb
    subst e
    exact I1.fpOk (Nat.le_refl _) (I1.hok.fresh (Nat.le_refl _))
  rcases hq with ⟨hq, q⟩ | ⟨hq, q⟩
  · obtain ⟨its, rv, p, hz⟩ := I1.list hq
    refine wpAny_pyIter_list p.isList ?_
    exact ⟨s1.heap.objs.size, [s1.heap.objs.size], _, _, H1, rfl, I1.kept (t' := s1.toks) fun b o e => Heap.get?_push_of_some _ e, turn_list a _, ⟨_, Heap.get?_push_size _ rfl, rfl, rfl⟩, fr, q⟩
  · obtain ⟨its, rv, p, hz⟩ := I1.tuple hq
    refine wpAny_pyIter_tuple (show s1.heap.IsTuple a its.toArray from p) ?_
    exact ⟨s1.heap.objs.size, [s1.heap.objs.size], _, _, H1, rfl, I1.kept (t' := s1.toks) fun b o e => Heap.get?_push_of_some _ e, turn_tuple a _, ⟨_, Heap.get?_push_size _ rfl, rfl, rfl⟩, fr, q⟩
theorem PI_imp {X : Cx} {tg e : Expr} {t t' : L2.TI} (h : PI X tg e t) (k : ∀ σ H R, t' σ H R → t σ H R) : PI X tg e t' := ⟨fun pins s σ H R I q => h.run pins s σ H R I (k _ _ _ q)⟩
/-- f(), as in HandS.CallSlots -/
theorem pe_callSD0 {X : Cx} {CX : CXT} {k : Nat} {f : Addr} {fd : FuncData} {ps : List Str} {sp : Sp} {E : L2.St → XK} {x : Str} {p pos : Pos} (F : FnOk X.prog X.w X.K X.mg X.base CX k f fd ps sp) (hr : Room k X.A) (hg : Gl X x) (hm : X.mg x = some (.ref f)) (hk : PySem.W.keepIn X.K (.ref f) = true) (hb : Binds X.K fd ps []) (hx : ∀ σ, PassesAt CX X σ (E σ))
    (hdb : (x == ("__debug__" : Str)) = false) : PE X (.Call (.Name x p) [] [] pos) (tCallSD sp [] E tNil) := by
  refine ⟨fun pins s σ H Q I h => ?_⟩
  refine wpAny_Call_Name_kw (ld_glob I hg hm ?_ hdb)
  exact PySem.W.callWith_K0 I.kIn hk (run_fnSD (us := []) F hr hb .nil (hx σ) I .nil h)
end PF

namespace PF
open PySem PySem.Spec PyProof.Rows
open L2 (V Hp HO upd upd_same upd_ne Same SqL SqT WX PE PT PA PC OpR CallR IxR SlR MtR TruR VK)
section
variable {g : Gm} {W : WX} {σ : L2.St} {G H : Hp} {α β γ δ : Type} {Rl : RL α β} {Rl2 : RL γ δ} {s : S} {F : Nat → Fp} {X : L2.Cx} {e : Expr}
/-- what owns nothing -/
def Poor (Rl : RL α β) : Prop := ∀ σ s G H a b P, Rl σ s G H a b P → ∀ c, ¬ P c
theorem poor_none {P : Fp} (n : ∀ c, ¬ P c) : P = none_ := funext fun c => propext ⟨fun z => (n c z).elim, fun z => z.elim⟩
def Aft (g : Gm) (W : WX) (σ : L2.St) (Rl : RL α β) (Rl2 : RL γ δ) (Q : δ → Hp → Prop) (f : S → Res α) (k : α → S → Res γ) : β → Hp → Prop := fun b H1 => ∃ G1 s0 s1 F1 a, f s0 = .ok a s1 ∧ RS g G1 H1 s1 σ F1 ∧ Rl σ s1 G1 H1 a b none_ ∧ Post g W σ G1 H1 (Own F1) Rl2 Q (k a s1)
theorem T_bind {f : S → Res α} {k : α → S → Res γ} {Q : δ → Hp → Prop} (n : Poor Rl) (h : T g W Rl2 (fun s => (f s).bind k) σ H Q) : T g W Rl f σ H (Aft g W σ Rl Rl2 Q f k) := by
  obtain ⟨G, s, F, R, p⟩ := h
  refine ⟨G, s, F, R, ?_⟩
  have p : Post g W σ G H (Own F) Rl2 Q ((f s).bind k) := p
  cases hf : f s with
  | bad => rw [hf] at p; exact p
  | exc e s1 => rw [hf] at p; exact p
  | ok a s1 =>
    rw [hf] at p
    intro G' H' F' P b t R1 d q
    have e := poor_none (n _ _ _ _ _ _ _ q)
    subst e
    exact ⟨G', s, s1, F', a, hf, R1, q, (p : Post g W σ G H (Own F) Rl2 Q (k a s1)).stp t |>.sup fun c z => .inr z⟩
theorem poor_V : Poor (RlV g) := fun _ _ _ _ _ _ _ h => h.1
theorem poor_P : Poor (RlP g) := fun _ _ _ _ _ _ _ h => h.1
theorem poor_B : Poor RlB := fun _ _ _ _ _ _ _ h => h.1
theorem poor_Vs : Poor (RlVs g) := fun _ _ _ _ _ _ _ h => h.1
theorem poor_I : Poor RlI := fun _ _ _ _ _ _ _ h => h.1
theorem poor_P2 (h : Poor Rl) : Poor (RlP2 g Rl) := fun _ _ _ _ _ _ _ q => h _ _ _ _ _ _ _ q.2
def RlN : RL Int Int := fun _ _ _ _ b c P => (∀ a, ¬ P a) ∧ b = c
theorem poor_N : Poor RlN := fun _ _ _ _ _ _ _ h => h.1
theorem Post.intR {A : Fp} {r : Res PV} {Q : Int → Hp → Prop} (h : Post g W σ G H A RlN Q (intR r)) : Post g W σ G H A (RlV g) (fun x H1 => ∃ i, x = .int i ∧ Q i H1) r := by
  cases r with
  | ok v s1 =>
    cases v with
    | int i =>
      intro G' H' F' P x t R d q
      refine ⟨i, q.2, h G' H' F' P i t R d ⟨q.1, rfl⟩⟩
    | _ => exact (show False from h).elim
  | exc e s => exact h
  | bad => exact h
end
end PF
set_option Elab.async false
set_option linter.all false
set_option maxRecDepth 100000
set_option maxHeartbeats 2000000
/-! PF, part i: each form of expression. -/
namespace PF
open PySem PySem.Spec PyProof.Rows
open L2 (V Hp HO upd upd_same upd_ne Same SqL SqT WX PE PT PA PC OpR CallR IxR SlR MtR TruR VK)
section
variable {g : Gm} {gn : GN} {Γ : Env} {N : List Tx} {k : Nat} {sc : Scope} {W : WX} {X : L2.Cx} {σ : L2.St} {H G : Hp} {a b c : Ex} {l r t x y e : Expr} {p : Pos} {s : S} {F : Nat → Fp}
theorem look_name (C : Cxt g gn Γ N k sc W X) {i : Nat} (h : chk gn N sc (.var i) e = true) : PE X e (L2.tVar i) := by
  obtain ⟨x, p, rfl, h1, h2, h3⟩ := chk_var h
  obtain ⟨d1, d2⟩ := noDbg_ok h3
  exact L2.pe_var (by rw [C.hN]; exact isNm_ok h1) (by rw [C.hsc]; exact visB_ok h2) d1 d2
theorem c_pk (C : Cxt g gn Γ N k sc W X) (h : chk gn N sc a l = true) (ha : PE X l (T g W (RlO g) (ev Γ a))) : PE X l (tPk g W a (ev Γ a)) := by
  rcases var_or (g := g) (W := W) a with ⟨i, rfl⟩ | ⟨e1, _⟩
  · exact look_name C h
  · rw [e1]; exact PE_frz ha
theorem c_peek (C : Cxt g gn Γ N k sc W X) (h : chk gn N sc a l = true) (ha : PE X l (T g W (RlO g) (ev Γ a))) : PE X l (T g W (RlP g) (peek a (ev Γ a))) :=
  PE_imp (c_pk C h ha) fun _ _ _ q => tPk_of q
theorem c_var (C : Cxt g gn Γ N k sc W X) {i : Nat} (h : chk gn N sc (.var i) e = true) : PE X e (T g W (RlO g) (ev Γ (.var i))) := by
  refine PE_imp (look_name C h) fun σ H Q q => ?_
  obtain ⟨G, s, F, R, p⟩ := q
  have p : Post g W σ G H (Own F) (RlO g) Q ((Res.opt (getV s i) s).bind fun v s' => .ok (.sh v) (if (getO s i).own then s'.set i (.sh v) else s')) := p
  cases hv : getV s i with
  | none => rw [hv] at p; exact p.elim
  | some v =>
    rw [hv] at p
    obtain ⟨G', F', x, t, R', ex, r⟩ := R.thaw hv
    exact ⟨x, ex, p G' H F' none_ x (t.sub fun c z => z.elim (fun z => z.elim) id) R' (fun _ z => z.elim) ⟨fun _ z => z, x, rfl, r⟩⟩
theorem here_sh {Q : VK} {v : PV} {x : V} (R : RS g G H s σ F) (h : Post g W σ G H (Own F) (RlO g) Q (.ok (.sh v) s)) (r : Rep g G v x) : Q x H :=
  Post.here R h ⟨fun _ z => z, x, rfl, r⟩
theorem c_glb (C : Cxt g gn Γ N k sc W X) {i : Nat} (h : chk gn N sc (.glb i) e = true) : PE X e (T g W (RlO g) (ev Γ (.glb i))) := by
  obtain ⟨x, p, rfl, h1, h2⟩ := chk_glb h
  obtain ⟨t, e1, rfl⟩ := isO_ok h1
  obtain ⟨gl, db⟩ := glB_ok C h2
  cases hv : Γ.glb i with
  | none =>
    refine ⟨fun pins s σ H Q I q => ?_⟩
    obtain ⟨G, s, F, R, p⟩ := q
    have p : Post g W σ G H (Own F) (RlO g) Q ((Res.opt (Γ.glb i) s).bind fun v s' => .ok (.sh v) s') := p
    rw [hv] at p
    exact p.elim
  | some v =>
    obtain ⟨u, x, hm, rv, hr⟩ := C.glb i t v e1 hv
    refine PE_imp (L2.pe_glob (v := x) gl hm rv db) fun σ H Q q => ?_
    obtain ⟨G, s, F, R, p⟩ := q
    have p : Post g W σ G H (Own F) (RlO g) Q ((Res.opt (Γ.glb i) s).bind fun v s' => .ok (.sh v) s') := p
    rw [hv] at p
    exact here_sh R p (hr G)
theorem T_mono {α β : Type} {Rl : RL α β} {f : S → Res α} {Q Q' : β → Hp → Prop} (h : T g W Rl f σ H Q) (k : ∀ b H, Q b H → Q' b H) : T g W Rl f σ H Q' := by
  obtain ⟨G, s, F, R, p⟩ := h
  exact ⟨G, s, F, R, p.imp k⟩
theorem tPk_mono {f : S → Res OV} {Q Q' : VK} (h : tPk g W a f σ H Q) (k : ∀ b H, Q b H → Q' b H) : tPk g W a f σ H Q' := by
  rcases var_or (g := g) (W := W) a with ⟨i, rfl⟩ | ⟨e1, _⟩
  · obtain ⟨v, e, q⟩ := h
    exact ⟨v, e, k _ _ q⟩
  · rw [e1] at h ⊢
    exact T_mono h k
/-- two values, then what is done with them -/
theorem late2 {α β γ δ : Type} {fa : S → Res OV} {kb : S → Res α} {Rl : RL α β} {Rl2 : RL γ δ} {kk : PV × α → S → Res γ} {Q : δ → Hp → Prop} {Q2 : V → β → Hp → Prop} (n : Poor Rl) (q : T g W Rl2 (fun s => (late a fa kb s).bind kk) σ H Q)
    (h : ∀ x y H2 G1 s1 F1 v w, RS g G1 H2 s1 σ F1 → PkR g G1 H2 v x → Rl σ s1 G1 H2 w y none_ → Post g W σ G1 H2 (Own F1) Rl2 Q (kk (v, w) s1) → Q2 x y H2) : tPk g W a fa σ H fun x H1 => T g W Rl kb σ H1 fun y H2 => Q2 x y H2 := by
  refine tPk_mono (late_of (T_bind (poor_P2 (g := g) n) q)) fun x H1 q => T_mono q fun y H2 q => ?_
  obtain ⟨G1, s0, s1, F1, ⟨v, w⟩, _, R1, ⟨h1, h2⟩, p⟩ := q
  exact h x y H2 G1 s1 F1 v w R1 h1 h2 p
theorem T_bind2 {α β γ δ : Type} {f : S → Res α} {Rl : RL α β} {Rl2 : RL γ δ} {kk : α → S → Res γ} {Q : δ → Hp → Prop} {Q2 : β → Hp → Prop} (n : Poor Rl) (q : T g W Rl2 (fun s => (f s).bind kk) σ H Q)
    (h : ∀ y H2 G1 s1 F1 w, RS g G1 H2 s1 σ F1 → Rl σ s1 G1 H2 w y none_ → Post g W σ G1 H2 (Own F1) Rl2 Q (kk w s1) → Q2 y H2) : T g W Rl f σ H Q2 := by
  refine T_mono (T_bind n q) fun y H2 q => ?_
  obtain ⟨G1, s0, s1, F1, w, _, R1, h1, p⟩ := q
  exact h y H2 G1 s1 F1 w R1 h1 p
theorem here_b {b : Bool} {Q : Bool → Hp → Prop} (R : RS g G H s σ F) (h : Post g W σ G H (Own F) RlB Q (.ok b s)) : Q b H := Post.here R h ⟨fun _ z => z, rfl⟩
theorem c_bin (C : Cxt g gn Γ N k sc W X) {o : BOp} {op : Operator} (ho : opB o op = true) (ca : chk gn N sc a l = true) (cb : chk gn N sc b r = true) (ha : PE X l (T g W (RlO g) (ev Γ a))) (hb : PE X r (T g W (RlO g) (ev Γ b))) :
    PE X (.BinOp l op r p) (T g W (RlO g) (ev Γ (.bin o a b))) := by
  refine PE_imp (L2.pe_op (op_bin C.hK ho) (c_pk C ca ha) (c_peek C cb hb)) fun σ H Q q => ?_
  have q : T g W (RlO g) (fun s => (late a (ev Γ a) (peek b (ev Γ b)) s).bind fun p s' => Res.opt (binop o p.1 p.2) s') σ H Q := q
  refine late2 poor_P q fun x y H2 G1 s1 F1 v w R1 hv hw p => ?_
  obtain ⟨ov, e, p⟩ := Post.opt p
  exact ⟨G1, v, w, ov, R1.sub, hv, hw.2, e, p.out R1⟩
theorem c_cmp (C : Cxt g gn Γ N k sc W X) {o : COp} {op : CmpOp} (ho : opC o op = true) (ca : chk gn N sc a l = true) (cb : chk gn N sc b r = true) (ha : PE X l (T g W (RlO g) (ev Γ a))) (hb : PE X r (T g W (RlO g) (ev Γ b))) :
    PE X (.Compare l [op] [r] p) (T g W (RlO g) (ev Γ (.cmp o a b))) := by
  have hm : behindInMarks op r = false := L2.nomark r (by intro z; subst z; cases o <;> cases ho) (by intro z; subst z; cases o <;> cases ho)
  refine PE_imp (L2.pe_cmpR (op_cmp C.hK C.room.units ho) (c_pk C ca ha) (c_peek C cb hb) hm) fun σ H Q q => ?_
  have q : T g W (RlO g) (fun s => (late a (ev Γ a) (peek b (ev Γ b)) s).bind fun p s' => boolR (Res.opt (cmpop o p.1 p.2) s')) σ H Q := q
  refine late2 poor_P q fun x y H2 G1 s1 F1 v w R1 hv hw p => ?_
  obtain ⟨ov, e, p⟩ := Post.opt p.boolR
  exact ⟨G1, v, w, ov, R1.sub, hv, hw.2, e, here_b R1 p⟩
theorem t_cmp (C : Cxt g gn Γ N k sc W X) {o : COp} {op : CmpOp} (ho : opC o op = true) (ca : chk gn N sc a l = true) (cb : chk gn N sc b r = true) (ha : PE X l (T g W (RlO g) (ev Γ a))) (hb : PE X r (T g W (RlO g) (ev Γ b))) :
    PT X (.Compare l [op] [r] p) (T g W RlB (te Γ (.cmp o a b))) := by
  have hm : behindInMarks op r = false := L2.nomark r (by intro z; subst z; cases o <;> cases ho) (by intro z; subst z; cases o <;> cases ho)
  refine PT_imp (L2.pt_cmpR (op_cmp C.hK C.room.units ho) (c_pk C ca ha) (c_peek C cb hb) hm) fun σ H Q q => ?_
  have q : T g W RlB (fun s => (late a (ev Γ a) (peek b (ev Γ b)) s).bind fun p s' => Res.opt (cmpop o p.1 p.2) s') σ H Q := q
  refine late2 poor_P q fun x y H2 G1 s1 F1 v w R1 hv hw p => ?_
  obtain ⟨ov, e, p⟩ := Post.opt p
  exact ⟨G1, v, w, ov, R1.sub, hv, hw.2, e, _, rfl, here_b R1 p⟩
theorem c_inn (C : Cxt g gn Γ N k sc W X) {ng : Bool} (hm : behindInMarks (if ng then .NotIn else .In) r = false) (ca : chk gn N sc a l = true) (cb : chk gn N sc b r = true) (ha : PE X l (T g W (RlO g) (ev Γ a))) (hb : PE X r (T g W (RlO g) (ev Γ b))) :
    PE X (.Compare l [if ng then .NotIn else .In] [r] p) (T g W (RlO g) (ev Γ (.inn ng a b))) := by
  refine PE_imp (L2.pe_cmpR (op_inn C.hK) (c_pk C ca ha) (c_peek C cb hb) hm) fun σ H Q q => ?_
  have q : T g W (RlO g) (fun s => (late a (ev Γ a) (peek b (ev Γ b)) s).bind fun p s' => boolR ((Res.opt (inop p.1 p.2) s').bind fun k s'' => .ok (k != ng) s'')) σ H Q := q
  refine late2 poor_P q fun x y H2 G1 s1 F1 v w R1 hv hw p => ?_
  have p := p.boolR
  cases e : inop v w with
  | none => rw [e] at p; exact p.elim
  | some ov =>
    rw [e] at p
    exact ⟨G1, v, w, ov, R1.sub, hv, hw.2, e, here_b R1 p⟩
theorem t_inn (C : Cxt g gn Γ N k sc W X) {ng : Bool} (hm : behindInMarks (if ng then .NotIn else .In) r = false) (ca : chk gn N sc a l = true) (cb : chk gn N sc b r = true) (ha : PE X l (T g W (RlO g) (ev Γ a))) (hb : PE X r (T g W (RlO g) (ev Γ b))) :
    PT X (.Compare l [if ng then .NotIn else .In] [r] p) (T g W RlB (te Γ (.inn ng a b))) := by
  refine PT_imp (L2.pt_cmpR (op_inn C.hK) (c_pk C ca ha) (c_peek C cb hb) hm) fun σ H Q q => ?_
  have q : T g W RlB (fun s => (late a (ev Γ a) (peek b (ev Γ b)) s).bind fun p s' => (Res.opt (inop p.1 p.2) s').bind fun k s'' => .ok (k != ng) s'') σ H Q := q
  refine late2 poor_P q fun x y H2 G1 s1 F1 v w R1 hv hw p => ?_
  cases e : inop v w with
  | none => rw [e] at p; exact p.elim
  | some ov =>
    rw [e] at p
    exact ⟨G1, v, w, ov, R1.sub, hv, hw.2, e, _, rfl, here_b R1 p⟩
theorem c_neg (C : Cxt g gn Γ N k sc W X) (ha : PE X l (T g W (RlO g) (ev Γ a))) : PE X (.UnaryOp .USub l p) (T g W (RlO g) (ev Γ (.neg a))) := by
  refine PE_imp (L2.pe_un L2.un_neg (PE_frz ha)) fun σ H Q q => ?_
  have q : T g W (RlO g) (fun s => (intR (frzR (ev Γ a s))).bind fun i s' => .ok (.sh (.int (-i))) s') σ H Q := q
  have q := T_bind poor_N q
  obtain ⟨G, s, F, R, p⟩ := q
  refine ⟨G, s, F, R, p.intR.imp fun x H1 q => ?_⟩
  obtain ⟨i, rfl, G1, s0, s1, F1, j, _, R1, ⟨_, ej⟩, p⟩ := q
  subst ej
  exact ⟨_, rfl, here_sh R1 p rep_int⟩
theorem pk_int {v : PV} {x : V} {i : Int} (h : PkR g G H v x) (e : v = .int i) : x = .int i := by subst e; exact h
def isNon : PV → Bool
  | .non => true
  | _ => false
theorem pk_non {v : PV} {x : V} (h : PkR g G H v x) : decide (x = V.non) = isNon v := by
  cases v with
  | non => cases (show x = _ from h); rfl
  | bl b => cases (show x = _ from h); rfl
  | int b => cases (show x = _ from h); rfl
  | str b => cases (show x = _ from h); rfl
  | tup _ => obtain ⟨a, vs, rfl, _⟩ := h; rfl
  | lst _ => obtain ⟨a, vs, rfl, _⟩ := h; rfl
  | frz _ => obtain ⟨a, vs, rfl, _⟩ := h; rfl
  | ins _ _ => obtain ⟨kn, a, dx, vs, rfl, _⟩ := h; rfl
theorem isN_eq (ng : Bool) (v : PV) : (match v with | .non => !ng | _ => ng) = (isNon v != ng) := by cases ng <;> cases v <;> rfl
theorem c_isN (C : Cxt g gn Γ N k sc W X) {ng : Bool} {n : Nat} {p2 : Pos} (ca : chk gn N sc a l = true) (ha : PE X l (T g W (RlO g) (ev Γ a))) :
    PE X (.Compare l [if ng then .IsNot else .Is] [.Constant .none n p2] p) (T g W (RlO g) (ev Γ (.isN ng a))) := by
  have fin : ∀ {σ H Q}, T g W (RlO g) (ev Γ (.isN ng a)) σ H Q → T g W (RlP g) (peek a (ev Γ a)) σ H fun x H1 => Q (.bl (decide (x = .non) != ng)) H1 := by
    intro σ H Q q
    have q : T g W (RlO g) (fun s => (peek a (ev Γ a) s).bind fun v s' => .ok (.sh (.bl (match v with | .non => !ng | _ => ng))) s') σ H Q := q
    refine T_bind2 poor_P q fun x H2 G1 s1 F1 v R1 hv p => ?_
    rw [pk_non hv.2]
    have p := here_sh R1 p rep_bl
    rw [isN_eq] at p
    exact p
  cases ng with
  | false => exact PE_imp (L2.pe_cmp (L2.pc_isN (c_peek C ca ha))) fun σ H Q q => T_mono (fin q) fun x H1 q => by simpa using q
  | true => exact PE_imp (L2.pe_cmp (L2.pc_notN (c_peek C ca ha))) fun σ H Q q => T_mono (fin q) fun x H1 q => by simpa using q
theorem t_isN (C : Cxt g gn Γ N k sc W X) {ng : Bool} {n : Nat} {p2 : Pos} (ca : chk gn N sc a l = true) (ha : PE X l (T g W (RlO g) (ev Γ a))) :
    PT X (.Compare l [if ng then .IsNot else .Is] [.Constant .none n p2] p) (T g W RlB (te Γ (.isN ng a))) := by
  have fin : ∀ {σ H} {Q : Bool → Hp → Prop}, T g W RlB (te Γ (.isN ng a)) σ H Q → T g W (RlP g) (peek a (ev Γ a)) σ H fun x H1 => Q (decide (x = .non) != ng) H1 := by
    intro σ H Q q
    have q : T g W RlB (fun s => (peek a (ev Γ a) s).bind fun v s' => .ok (match v with | .non => !ng | _ => ng) s') σ H Q := q
    refine T_bind2 poor_P q fun x H2 G1 s1 F1 v R1 hv p => ?_
    rw [pk_non hv.2]
    have p := here_b R1 p
    rw [isN_eq] at p
    exact p
  cases ng with
  | false => exact PT_imp (L2.pt_cmp (L2.pc_isN (c_peek C ca ha))) fun σ H Q q => T_mono (fin q) fun x H1 q => ⟨_, rfl, by simpa using q⟩
  | true => exact PT_imp (L2.pt_cmp (L2.pc_notN (c_peek C ca ha))) fun σ H Q q => T_mono (fin q) fun x H1 q => ⟨_, rfl, by simpa using q⟩
theorem emp_eq {v : List PV} {w : List V} (h : Reps g G v w) : (!v.isEmpty) = !w.isEmpty := by
  cases v with
  | nil => cases (show w = [] from h); rfl
  | cons a r => obtain ⟨x, y, rfl, _⟩ := h; rfl
theorem tru_of {K : PySem.W.Frag} (hK : K = g.K) (m : Same G H) {v : PV} {x : V} {q : Bool} (h : PkR g G H v x) (e : truth v = some q) : L2.TruV K x H q := by
  cases v with
  | non => cases (show x = _ from h); cases e; rfl
  | bl b => cases (show x = _ from h); cases e; rfl
  | int b => cases (show x = _ from h); cases e; rfl
  | str b =>
    cases (show x = _ from h)
    have e : (if b.length ≤ 16777216 then some (!b.isEmpty) else none) = some q := e
    split at e
    · rename_i hl
      cases e
      refine ⟨by rw [mkS_len, sizeLine_eq]; exact hl, ?_⟩
      rw [mkS_len]
      cases b with
      | nil => rfl
      | cons z zs =>
        show true = _
        symm
        rw [bne_iff_ne]
        show ((zs.length + 1 : Nat) : Int) ≠ 0
        omega
    · cases e
  | tup _ =>
    obtain ⟨a, vs, rfl, h1, r⟩ := h
    cases e
    exact .inr (.inl ⟨vs, by rw [hK]; exact sqT_mono m h1, emp_eq r⟩)
  | lst _ =>
    obtain ⟨a, vs, rfl, h1, r⟩ := h
    cases e
    exact .inl ⟨vs, .inl (.inl h1), emp_eq r⟩
  | frz _ =>
    obtain ⟨a, vs, rfl, h1, r⟩ := h
    cases e
    exact .inl ⟨vs, by rw [hK]; exact m.seq h1, emp_eq r⟩
  | ins _ _ => cases e
theorem c_not (C : Cxt g gn Γ N k sc W X) (ca : chk gn N sc a l = true) (ha : PE X l (T g W (RlO g) (ev Γ a))) : PE X (.UnaryOp .Not l p) (T g W (RlO g) (ev Γ (.not a))) := by
  refine PE_imp (L2.pe_notT (c_peek C ca ha)) fun σ H Q q => ?_
  have q : T g W (RlO g) (fun s => (peek a (ev Γ a) s).bind fun v s' => (Res.opt (truth v) s').bind fun k s1 => .ok (.sh (.bl (!k))) s1) σ H Q := q
  refine T_bind2 poor_P q fun x H2 G1 s1 F1 v R1 hv p => ?_
  cases e : truth v with
  | none => rw [e] at p; exact p.elim
  | some q =>
    rw [e] at p
    exact ⟨q, tru_of C.hK R1.sub hv.2 e, here_sh R1 p rep_bl⟩
theorem RlV_of {v : PV} {x : V} (R : RS g G H s σ F) (h : Rep g G v x) : PkR g G H v x := PkR.of R.sub h
theorem c_and (C : Cxt g gn Γ N k sc W X) {rest : List Expr} (ha : PE X l (T g W (RlO g) (ev Γ a))) (hb : PE X (.BoolOp .And (r :: rest) p) (T g W (RlO g) (ev Γ b))) : PE X (.BoolOp .And (l :: r :: rest) p) (T g W (RlO g) (ev Γ (.and a b))) := by
  refine PE_imp (L2.pe_andT (PE_frz ha) hb) fun σ H Q q => ?_
  have q : T g W (RlO g) (fun s => (frzR (ev Γ a s)).bind fun v s' => (Res.opt (truth v) s').bind fun k s'' => if k then ev Γ b s'' else .ok (.sh v) s'') σ H Q := q
  refine T_bind2 poor_V q fun x H2 G1 s1 F1 v R1 hv p => ?_
  cases e : truth v with
  | none => rw [e] at p; exact p.elim
  | some q =>
    rw [e] at p
    have p : Post g W σ G1 H2 (Own F1) (RlO g) Q (if q = true then ev Γ b s1 else .ok (.sh v) s1) := p
    refine ⟨q, tru_of C.hK R1.sub (PkR.of R1.sub hv.2) e, ?_⟩
    cases q with
    | true => exact ⟨G1, s1, F1, R1, p⟩
    | false => exact here_sh R1 p hv.2
theorem c_or (C : Cxt g gn Γ N k sc W X) {rest : List Expr} (ha : PE X l (T g W (RlO g) (ev Γ a))) (hb : PE X (.BoolOp .Or (r :: rest) p) (T g W (RlO g) (ev Γ b))) : PE X (.BoolOp .Or (l :: r :: rest) p) (T g W (RlO g) (ev Γ (.or a b))) := by
  refine PE_imp (L2.pe_orT (PE_frz ha) hb) fun σ H Q q => ?_
  have q : T g W (RlO g) (fun s => (frzR (ev Γ a s)).bind fun v s' => (Res.opt (truth v) s').bind fun k s'' => if k then .ok (.sh v) s'' else ev Γ b s'') σ H Q := q
  refine T_bind2 poor_V q fun x H2 G1 s1 F1 v R1 hv p => ?_
  cases e : truth v with
  | none => rw [e] at p; exact p.elim
  | some q =>
    rw [e] at p
    have p : Post g W σ G1 H2 (Own F1) (RlO g) Q (if q = true then .ok (.sh v) s1 else ev Γ b s1) := p
    refine ⟨q, tru_of C.hK R1.sub (PkR.of R1.sub hv.2) e, ?_⟩
    cases q with
    | false => exact ⟨G1, s1, F1, R1, p⟩
    | true => exact here_sh R1 p hv.2
theorem c_ite (hc : PT X t (T g W RlB (te Γ c))) (ha : PE X l (T g W (RlO g) (ev Γ a))) (hb : PE X r (T g W (RlO g) (ev Γ b))) : PE X (.IfExp t l r p) (T g W (RlO g) (ev Γ (.ite c a b))) := by
  refine PE_imp (L2.pe_ifExp hc ha hb) fun σ H Q q => ?_
  have q : T g W (RlO g) (fun s => (te Γ c s).bind fun k s' => if k then ev Γ a s' else ev Γ b s') σ H Q := q
  refine T_bind2 poor_B q fun x H2 G1 s1 F1 v R1 hv p => ?_
  rw [← hv.2]
  cases v with
  | true => exact ⟨G1, s1, F1, R1, p⟩
  | false => exact ⟨G1, s1, F1, R1, p⟩
theorem t_ite (hc : PT X t (T g W RlB (te Γ c))) (ha : PT X l (T g W RlB (te Γ a))) (hb : PT X r (T g W RlB (te Γ b))) : PT X (.IfExp t l r p) (T g W RlB (te Γ (.ite c a b))) := by
  refine ⟨fun pins s σ H Q I q => ?_⟩
  have q : T g W RlB (fun s => (te Γ c s).bind fun k s' => if k then te Γ a s' else te Γ b s') σ H Q := q
  refine isTrue_IfExp (L2.thn (hc.run pins s σ H _ I (T_bind poor_B q)) fun d s1 ⟨H1, I1, q1⟩ => ?_)
  obtain ⟨G1, s0, s1, F1, v, _, R1, hv, p⟩ := q1
  have ed := hv.2
  subst ed
  cases v with
  | true => exact ha.run pins _ σ H1 Q I1 ⟨G1, s1, F1, R1, p⟩
  | false => exact hb.run pins _ σ H1 Q I1 ⟨G1, s1, F1, R1, p⟩
theorem t_and {rest : List Expr} (ha : PT X l (T g W RlB (te Γ a))) (hb : L2.PW X (.BoolOp .And (r :: rest) p) (T g W RlB (te Γ b))) : L2.PW X (.BoolOp .And (l :: r :: rest) p) (T g W RlB (te Γ (.and a b))) := by
  refine ⟨fun wh pins s σ H Q I q => (L2.pw_and ha hb).run wh pins s σ H Q I ?_⟩
  have q : T g W RlB (fun s => (te Γ a s).bind fun k s' => if k then te Γ b s' else .ok false s') σ H Q := q
  refine T_bind2 poor_B q fun x H2 G1 s1 F1 v R1 hv p => ?_
  rw [← hv.2]
  cases v with
  | true => exact ⟨G1, s1, F1, R1, p⟩
  | false => exact here_b R1 p
theorem t_or {rest : List Expr} (ha : PT X l (T g W RlB (te Γ a))) (hb : L2.PW X (.BoolOp .Or (r :: rest) p) (T g W RlB (te Γ b))) : L2.PW X (.BoolOp .Or (l :: r :: rest) p) (T g W RlB (te Γ (.or a b))) := by
  refine ⟨fun wh pins s σ H Q I q => (L2.pw_or ha hb).run wh pins s σ H Q I ?_⟩
  have q : T g W RlB (fun s => (te Γ a s).bind fun k s' => if k then .ok true s' else te Γ b s') σ H Q := q
  refine T_bind2 poor_B q fun x H2 G1 s1 F1 v R1 hv p => ?_
  rw [← hv.2]
  cases v with
  | false => exact ⟨G1, s1, F1, R1, p⟩
  | true => exact here_b R1 p
theorem t_not (ha : PT X l (T g W RlB (te Γ a))) : PT X (.UnaryOp .Not l p) (T g W RlB (te Γ (.not a))) := by
  refine PT_imp (L2.pt_not ha) fun σ H Q q => ?_
  have q : T g W RlB (fun s => (te Γ a s).bind fun k s' => .ok (!k) s') σ H Q := q
  refine T_bind2 poor_B q fun x H2 G1 s1 F1 v R1 hv p => ?_
  rw [← hv.2]
  exact here_b R1 p
theorem c_ix (C : Cxt g gn Γ N k sc W X) (ca : chk gn N sc a l = true) (cb : chk gn N sc b r = true) (ha : PE X l (T g W (RlO g) (ev Γ a))) (hb : PE X r (T g W (RlO g) (ev Γ b))) :
    PE X (.Subscript l r p) (T g W (RlO g) (ev Γ (.ix a b))) := by
  refine PE_imp (L2.pe_ix (ix_ok C.hK) (c_pk C ca ha) (PE_frz hb) (plainIx (chk_plain cb).2)) fun σ H Q q => ?_
  have q : T g W (RlO g) (fun s => (late a (ev Γ a) (fun s' => frzR (ev Γ b s')) s).bind fun p s' => valR (Res.opt (index p.1 p.2) s')) σ H Q := q
  refine late2 poor_V q fun x y H2 G1 s1 F1 v w R1 hv hw p => ?_
  obtain ⟨z, e, p⟩ := Post.opt p.valR
  exact ⟨G1, v, w, z, R1.sub, hv, hw.2, e, fun u ru => Post.here R1 p ⟨fun _ z => z, ru⟩⟩
theorem t_ix (C : Cxt g gn Γ N k sc W X) (ca : chk gn N sc a l = true) (cb : chk gn N sc b r = true) (ha : PE X l (T g W (RlO g) (ev Γ a))) (hb : PE X r (T g W (RlO g) (ev Γ b))) :
    PT X (.Subscript l r p) (T g W RlB (te Γ (.ix a b))) := by
  refine PT_imp (L2.pt_truth (L2.pe_ix (ix_ok C.hK) (c_pk C ca ha) (PE_frz hb) (plainIx (chk_plain cb).2)) fun _ => rfl) fun σ H Q q => ?_
  have q : T g W RlB (fun s => (late a (ev Γ a) (fun s' => frzR (ev Γ b s')) s).bind fun p s' => (Res.opt (index p.1 p.2) s').bind fun v s1 => Res.opt (truth v) s1) σ H Q := q
  refine late2 poor_V q fun x y H2 G1 s1 F1 v w R1 hv hw p => ?_
  cases e : index v w with
  | none => rw [show index (v, w).1 (v, w).2 = none from e] at p; exact p.elim
  | some z =>
    rw [show index (v, w).1 (v, w).2 = some z from e] at p
    obtain ⟨q, e2, p⟩ := Post.opt (o := truth z) (s := s1) p
    exact ⟨G1, v, w, z, R1.sub, hv, hw.2, e, fun u ru => ⟨q, tru_of C.hK R1.sub (PkR.of R1.sub ru) e2, here_b R1 p⟩⟩
theorem c_sl (C : Cxt g gn Γ N k sc W X) {lo hi : Opt} {lo' hi' : Option Expr} {p2 : Pos} (ca : chk gn N sc a l = true) (ha : PE X l (T g W (RlO g) (ev Γ a))) (hl : L2.PO X lo' (T g W RlI (evO Γ lo))) (hh : L2.PO X hi' (T g W RlI (evO Γ hi))) :
    PE X (.Subscript l (.Slice lo' hi' none p2) p) (T g W (RlO g) (ev Γ (.sl a lo hi))) := by
  refine PE_imp (L2.pe_slice (sl_ok C.hK) (c_pk C ca ha) hl hh) fun σ H Q q => ?_
  have q : T g W (RlO g) (fun s => (late a (ev Γ a) (fun s' => (evO Γ lo s').bind fun i s1 => (evO Γ hi s1).bind fun j s2 => .ok (i, j) s2) s).bind fun p s' => Res.opt (slice p.1 p.2.1 p.2.2) s') σ H Q := q
  let RlII : RL (Option Int × Option Int) (Option Int × Option Int) := fun _ _ _ _ b c P => (∀ a, ¬ P a) ∧ b = c
  have n : Poor RlII := fun _ _ _ _ _ _ _ h => h.1
  refine tPk_mono (late2 (Rl := RlII) (Q2 := fun x y H2 => rSll g x y.1 y.2 H2 Q) n q fun x y H2 G1 s1 F1 v w R1 hv hw p => ?_) fun x H1 q => ?_
  · cases hw.2
    obtain ⟨ov, e, p⟩ := Post.opt p
    exact ⟨G1, v, ov, R1.sub, hv, e, p.out R1⟩
  · refine T_bind2 poor_I q fun i H2 G1 s1 F1 w R1 hw p => ?_
    cases hw.2
    refine T_bind2 (f := evO Γ hi) (kk := fun j s2 => .ok (i, j) s2) poor_I ⟨G1, s1, F1, R1, p⟩ fun j H2 G1 s1 F1 w R1 hw p => ?_
    cases hw.2
    exact Post.here (b := (i, j)) R1 p ⟨fun _ z => z, rfl⟩
theorem c_rev (C : Cxt g gn Γ N k sc W X) {n : Nat} {p1 p2 p3 : Pos} (ca : chk gn N sc a l = true) (ha : PE X l (T g W (RlO g) (ev Γ a))) :
    PE X (.Subscript l (.Slice none none (some (.UnaryOp .USub (.Constant (.int 1) n p1) p2)) p3) p) (T g W (RlO g) (ev Γ (.rev a))) := by
  refine PE_imp (pe_back (c_peek C ca ha)) fun σ H Q q => ?_
  have q : T g W (RlO g) (fun s => (peek a (ev Γ a) s).bind fun v s' => Res.opt (reversed v) s') σ H Q := q
  refine T_bind2 poor_P q fun x H2 G1 s1 F1 v R1 hv p => ?_
  obtain ⟨ov, e, p⟩ := Post.opt p
  obtain ⟨b, vs, xs, rfl, r, h⟩ := rev_some R1.sub hv.2 e
  refine ⟨b, vs, rfl, ?_⟩
  rcases h with ⟨h1, rfl⟩ | ⟨h1, rfl⟩
  · exact .inl ⟨by rw [C.hK]; exact h1, fun z n => (p.out R1).lst R1.sub r.reverse n⟩
  · exact .inr ⟨by rw [C.hK]; exact h1, fun z n => (p.out R1).tup R1.sub r.reverse n⟩
end
end PF
set_option Elab.async false
set_option linter.all false
set_option maxRecDepth 100000
set_option maxHeartbeats 2000000
/-! PF, part j: each form of expression, continued; sources. -/
namespace PF
open PySem PySem.Spec PyProof.Rows
open L2 (V Hp HO upd upd_same upd_ne Same SqL SqT WX PE PT PA PC OpR CallR IxR SlR MtR TruR VK)
section
variable {g : Gm} {gn : GN} {Γ : Env} {N : List Tx} {k : Nat} {sc : Scope} {W : WX} {X : L2.Cx} {σ : L2.St} {H G : Hp} {a b c : Ex} {l r t x y e : Expr} {p : Pos} {s : S} {F : Nat → Fp} {es : Exs} {ls : List Expr}
theorem P_bind {α β γ δ : Type} {f : S → Res α} {Rl : RL α β} {Rl2 : RL γ δ} {kk : α → S → Res γ} {Q : δ → Hp → Prop} {Q2 : β → Hp → Prop} (n : Poor Rl) (R : RS g G H s σ F) (p : Post g W σ G H (Own F) Rl2 Q ((f s).bind kk))
    (h : ∀ y H2 G1 s1 F1 w, Same G G1 → RS g G1 H2 s1 σ F1 → Rl σ s1 G1 H2 w y none_ → Post g W σ G1 H2 (Own F1) Rl2 Q (kk w s1) → f s = .ok w s1 → Q2 y H2) : T g W Rl f σ H Q2 := by
  refine ⟨G, s, F, R, ?_⟩
  cases hf : f s with
  | bad => rw [hf] at p; exact p
  | exc e s1 => rw [hf] at p; exact p
  | ok a s1 =>
    rw [hf] at p
    intro G' H' F' P b t R1 d q
    have e := poor_none (n _ _ _ _ _ _ _ q)
    subst e
    exact h b H' G' s1 F' a t.g R1 q ((p : Post g W σ G H (Own F) Rl2 Q (kk a s1)).stp t |>.sup fun c z => .inr z) hf
theorem marks_of {o q : COp} {op op2 : CmpOp} {m r : Expr} (h : opC q op2 = true) : lastMarks [op, op2] [m, r] = false := by
  show behindInMarks op2 r = false
  exact L2.nomark r (by intro z; subst z; cases q <;> cases h) (by intro z; subst z; cases q <;> cases h)
theorem chain_of {o q : COp} {α β : Type} {Rl : RL α β} {Q : β → Hp → Prop} {Qv : VK} {kk : Bool → S → Res α} (hq : T g W Rl (fun s => (frzR (ev Γ a s)).bind fun x s1 => (frzR (ev Γ b s1)).bind fun y s2 => (Res.opt (cmpop o x y) s2).bind fun k s3 =>
      if k then (frzR (ev Γ c s3)).bind fun z s4 => (Res.opt (cmpop q y z) s4).bind kk else kk false s3) σ H Q)
    (hk : ∀ d H1 G1 s1 F1, RS g G1 H1 s1 σ F1 → Post g W σ G1 H1 (Own F1) Rl Q (kk d s1) → Qv (.bl d) H1) :
    L2.tChain (rCmp g o) (rCmp g q) (T g W (RlV g) fun s => frzR (ev Γ a s)) (T g W (RlV g) fun s => frzR (ev Γ b s)) (T g W (RlV g) fun s => frzR (ev Γ c s)) σ H Qv := by
  obtain ⟨G, s, F, R, p⟩ := hq
  refine P_bind poor_V R p fun x H1 G1 s1 F1 v _ R1 hv p _ => ?_
  refine P_bind (f := fun s => frzR (ev Γ b s)) poor_V R1 p fun y H2 G2 s2 F2 w m2 R2 hw p _ => ?_
  cases e : cmpop o v w with
  | none => rw [e] at p; exact p.elim
  | some d =>
    rw [e] at p
    have p : Post g W σ G2 H2 (Own F2) Rl Q (if d = true then (frzR (ev Γ c s2)).bind fun z s4 => (Res.opt (cmpop q w z) s4).bind kk else kk false s2) := p
    refine ⟨G2, v, w, d, R2.sub, PkR.of R2.sub (Rep.mono m2 _ _ hv.2), PkR.of R2.sub hw.2, e, d, rfl, ?_⟩
    cases d with
    | false => exact hk false H2 G2 s2 F2 R2 p
    | true =>
      refine P_bind (f := fun s => frzR (ev Γ c s)) poor_V R2 p fun z H3 G3 s3 F3 u m3 R3 hu p _ => ?_
      cases e2 : cmpop q w u with
      | none => rw [e2] at p; exact p.elim
      | some d2 =>
        rw [e2] at p
        exact ⟨G3, w, u, d2, R3.sub, PkR.of R3.sub (Rep.mono m3 _ _ hw.2), PkR.of R3.sub hu.2, e2, hk d2 H3 G3 s3 F3 R3 p⟩
theorem boolR_eq (r : Res Bool) : boolR r = r.bind fun k s => .ok (.sh (.bl k)) s := rfl
theorem bind_ok {α : Type} (r : Res α) : r.bind Res.ok = r := by cases r <;> rfl
theorem c_chn (C : Cxt g gn Γ N k sc W X) {o q : COp} {op op2 : CmpOp} {m : Expr} (ho : opC o op = true) (hq : opC q op2 = true) (ha : PE X l (T g W (RlO g) (ev Γ a))) (hb : PE X m (T g W (RlO g) (ev Γ b))) (hc : PE X r (T g W (RlO g) (ev Γ c))) :
    PE X (.Compare l [op, op2] [m, r] p) (T g W (RlO g) (ev Γ (.chn o q a b c))) := by
  refine PE_imp (L2.pe_chain (op_cmp C.hK C.room.units ho) (op_cmp C.hK C.room.units hq) (PE_frz ha) (PE_frz hb) (PE_frz hc) (marks_of (o := o) hq)) fun σ H Q h => ?_
  have h : T g W (RlO g) (fun s => (frzR (ev Γ a s)).bind fun x s1 => (frzR (ev Γ b s1)).bind fun y s2 => (Res.opt (cmpop o x y) s2).bind fun k s3 =>
      if k then (frzR (ev Γ c s3)).bind fun z s4 => (Res.opt (cmpop q y z) s4).bind (fun k s => .ok (.sh (.bl k)) s) else .ok (.sh (.bl false)) s3) σ H Q := h
  exact chain_of (kk := fun k s => Res.ok (OV.sh (PV.bl k)) s) h fun d H1 G1 s1 F1 R1 p => here_sh R1 p rep_bl
theorem t_chn (C : Cxt g gn Γ N k sc W X) {o q : COp} {op op2 : CmpOp} {m : Expr} (ho : opC o op = true) (hq : opC q op2 = true) (ha : PE X l (T g W (RlO g) (ev Γ a))) (hb : PE X m (T g W (RlO g) (ev Γ b))) (hc : PE X r (T g W (RlO g) (ev Γ c))) :
    PT X (.Compare l [op, op2] [m, r] p) (T g W RlB (te Γ (.chn o q a b c))) := by
  refine PT_imp (L2.pt_chain (op_cmp C.hK C.room.units ho) (op_cmp C.hK C.room.units hq) (PE_frz ha) (PE_frz hb) (PE_frz hc) (marks_of (o := o) hq)) fun σ H Q h => ?_
  have h : T g W RlB (fun s => (frzR (ev Γ a s)).bind fun x s1 => (frzR (ev Γ b s1)).bind fun y s2 => (Res.opt (cmpop o x y) s2).bind fun k s3 =>
      if k then (frzR (ev Γ c s3)).bind fun z s4 => Res.opt (cmpop q y z) s4 else .ok false s3) σ H Q := h
  have h : T g W RlB (fun s => (frzR (ev Γ a s)).bind fun x s1 => (frzR (ev Γ b s1)).bind fun y s2 => (Res.opt (cmpop o x y) s2).bind fun k s3 =>
      if k then (frzR (ev Γ c s3)).bind fun z s4 => (Res.opt (cmpop q y z) s4).bind Res.ok else Res.ok false s3) σ H Q := by
    simp only [bind_ok]; exact h
  exact chain_of (kk := Res.ok) h fun d H1 G1 s1 F1 R1 p => ⟨_, rfl, here_b R1 p⟩
def lenE : Exs → Nat
  | .nil => 0
  | .cons _ es => lenE es + 1
theorem chks_len : ∀ {es : Exs} {ls : List Expr}, chks gn N sc es ls = true → ls.length = lenE es
  | .nil, ls, h => by
    cases ls with
    | nil => rfl
    | cons a r => exact ff h
  | .cons a es, ls, h => by
    cases ls with
    | nil => exact ff h
    | cons x r =>
      have h : (chk gn N sc a x && chks gn N sc es r) = true := h
      rw [Bool.and_eq_true] at h
      show r.length + 1 = lenE es + 1
      rw [chks_len h.2]
theorem bind_some {α β : Type} {r : Res α} {f : α → S → Res β} {v : β} {s' : S} (h : r.bind f = .ok v s') : ∃ a s1, r = .ok a s1 ∧ f a s1 = .ok v s' := by
  cases r with
  | ok a s1 => exact ⟨a, s1, rfl, h⟩
  | exc e s1 => cases h
  | bad => cases h
theorem evs_len : ∀ {es : Exs} {s s' : S} {vs : List PV}, evs Γ es s = .ok vs s' → vs.length = lenE es
  | .nil, s, s', vs, h => by cases (show Res.ok [] s = Res.ok vs s' from h); rfl
  | .cons a es, s, s', vs, h => by
    have h : ((frzR (ev Γ a s)).bind fun v s' => (evs Γ es s').bind fun vs s'' => .ok (v :: vs) s'') = .ok vs s' := h
    obtain ⟨v, s1, _, h⟩ := bind_some h
    obtain ⟨ws, s2, e, h⟩ := bind_some h
    cases h
    show ws.length + 1 = lenE es + 1
    rw [evs_len e]
theorem a_nil : PA X [] (T g W (RlVs g) (evs Γ .nil)) := PA_imp L2.pa_nil fun σ H Q q => by
  obtain ⟨G, s, F, R, p⟩ := q
  exact Post.here (a := ([] : List PV)) (b := ([] : List V)) R p ⟨fun _ z => z, rfl⟩
theorem a_cons (ca : chk gn N sc a l = true) (ha : PE X l (T g W (RlO g) (ev Γ a))) (hr : PA X ls (T g W (RlVs g) (evs Γ es))) : PA X (l :: ls) (T g W (RlVs g) (evs Γ (.cons a es))) := by
  refine PA_imp (L2.pa_cons (PE_frz ha) hr (star_one (chk_plain ca).1)) fun σ H Q q => ?_
  obtain ⟨G, s, F, R, p⟩ := q
  have p : Post g W σ G H (Own F) (RlVs g) Q ((frzR (ev Γ a s)).bind fun v s' => (evs Γ es s').bind fun vs s'' => .ok (v :: vs) s'') := p
  refine P_bind (f := fun s => frzR (ev Γ a s)) poor_V R p fun x H1 G1 s1 F1 v _ R1 hv p _ => ?_
  refine P_bind (f := evs Γ es) poor_Vs R1 p fun xs H2 G2 s2 F2 vs m2 R2 hvs p _ => ?_
  exact Post.here (a := v :: vs) R2 p ⟨fun _ z => z, Reps.cons (Rep.mono m2 _ _ hv.2) hvs.2⟩
theorem c_tup {n : Nat} (hl : ls.length ≤ 1000) (cs : chks gn N sc es ls = true) (hs : PA X ls (T g W (RlVs g) (evs Γ es))) : PE X (.Tuple ls n p) (T g W (RlO g) (ev Γ (.tup es))) := by
  refine PE_imp (L2.pe_tup hs) fun σ H Q q => ?_
  obtain ⟨G, s, F, R, p⟩ := q
  have p : Post g W σ G H (Own F) (RlO g) Q ((evs Γ es s).bind fun vs s' => .ok (.sh (.tup vs)) s') := p
  refine P_bind (f := evs Γ es) poor_Vs R p fun xs H2 G2 s2 F2 vs m2 R2 hvs p hf => ?_
  have hz : xs.length ≤ 1000 := by rw [← hvs.2.length, evs_len hf, ← chks_len cs]; exact hl
  exact ⟨Nat.le_trans hz (by rw [sizeLine_eq]; decide), fun z n => (p.out R2).tup R2.sub hvs.2 n⟩
theorem c_lst (hl : ls.length ≤ 1000) (cs : chks gn N sc es ls = true) (hs : PA X ls (T g W (RlVs g) (evs Γ es))) : PE X (.List ls p) (T g W (RlO g) (ev Γ (.lst es))) := by
  refine PE_imp (L2.pe_lst hs) fun σ H Q q => ?_
  obtain ⟨G, s, F, R, p⟩ := q
  have p : Post g W σ G H (Own F) (RlO g) Q ((evs Γ es s).bind fun vs s' => .ok (.lst vs) s') := p
  refine P_bind (f := evs Γ es) poor_Vs R p fun xs H2 G2 s2 F2 vs m2 R2 hvs p hf => ?_
  have hz : xs.length ≤ 1000 := by rw [← hvs.2.length, evs_len hf, ← chks_len cs]; exact hl
  exact ⟨Nat.le_trans hz (by rw [sizeLine_eq]; decide), fun z n => (p.out R2).lst R2.sub hvs.2 n⟩
/-! built-ins -/
def RlBi (g : Gm) : RL (List PV) (List V) := fun _ _ G H vs xs P => (∀ a, ¬ P a) ∧ ((∃ v x, vs = [v] ∧ xs = [x] ∧ PkR g G H v x) ∨ (vs.length ≠ 1 ∧ Reps g G vs xs))
theorem poor_Bi : Poor (RlBi g) := fun _ _ _ _ _ _ _ h => h.1
theorem b_nil : PA X [] (T g W (RlBi g) (evP Γ .nil)) := PA_imp L2.pa_nil fun σ H Q q => by
  obtain ⟨G, s, F, R, p⟩ := q
  exact Post.here (a := ([] : List PV)) (b := ([] : List V)) R p ⟨fun _ z => z, .inr ⟨by decide, rfl⟩⟩
theorem b_one (C : Cxt g gn Γ N k sc W X) (ca : chk gn N sc a l = true) (ha : PE X l (T g W (RlO g) (ev Γ a))) : PA X [l] (T g W (RlBi g) (evP Γ (.cons a .nil))) := by
  refine PA_imp (L2.pa_cons (c_peek C ca ha) L2.pa_nil (star_one (chk_plain ca).1)) fun σ H Q q => ?_
  obtain ⟨G, s, F, R, p⟩ := q
  have p : Post g W σ G H (Own F) (RlBi g) Q ((peek a (ev Γ a) s).bind fun v s' => .ok [v] s') := p
  refine P_bind (f := peek a (ev Γ a)) poor_P R p fun x H1 G1 s1 F1 v _ R1 hv p _ => ?_
  exact Post.here (a := [v]) (b := [x]) R1 p ⟨fun _ z => z, .inl ⟨v, x, rfl, rfl, hv.2⟩⟩
theorem b_cons {b : Ex} {r : Expr} (ca : chk gn N sc a l = true) (ha : PE X l (T g W (RlO g) (ev Γ a))) (hr : PA X ls (T g W (RlVs g) (evs Γ (.cons b es)))) : PA X (l :: ls) (T g W (RlBi g) (evP Γ (.cons a (.cons b es)))) := by
  refine PA_imp (L2.pa_cons (PE_frz ha) hr (star_one (chk_plain ca).1)) fun σ H Q q => ?_
  obtain ⟨G, s, F, R, p⟩ := q
  have p : Post g W σ G H (Own F) (RlBi g) Q ((frzR (ev Γ a s)).bind fun v s' => (evs Γ (.cons b es) s').bind fun vs s'' => .ok (v :: vs) s'') := p
  refine P_bind (f := fun s => frzR (ev Γ a s)) poor_V R p fun x H1 G1 s1 F1 v _ R1 hv p _ => ?_
  refine P_bind (f := evs Γ (.cons b es)) poor_Vs R1 p fun xs H2 G2 s2 F2 vs m2 R2 hvs p hf => ?_
  refine Post.here (a := v :: vs) R2 p ⟨fun _ z => z, .inr ⟨?_, Reps.cons (Rep.mono m2 _ _ hv.2) hvs.2⟩⟩
  rw [List.length_cons, evs_len hf]
  show lenE es + 1 + 1 ≠ 1
  omega
theorem biS_ok (b : Bi) : biS b ≠ "__name__" ∧ (biS b == ("__debug__" : Str)) = false ∧ bootBuiltins (biS b) = some (biV b) := by
  cases b
  · exact ⟨by decide, by decide, by decide +kernel⟩
  · exact ⟨by decide, by decide, by decide +kernel⟩
  · exact ⟨by decide, by decide, by decide +kernel⟩
  · exact ⟨by decide, by decide, by decide +kernel⟩
  · exact ⟨by decide, by decide, by decide +kernel⟩
  · exact ⟨by decide, by decide, by decide +kernel⟩
  · exact ⟨by decide, by decide, by decide +kernel⟩
  · exact ⟨by decide, by decide, by decide +kernel⟩
  · exact ⟨by decide, by decide, by decide +kernel⟩
  · exact ⟨by decide, by decide, by decide +kernel⟩
theorem pe_bi (C : Cxt g gn Γ N k sc W X) {b : Bi} {t : L2.TA} {p1 : Pos} (hg : glB sc (biS b) = true) (ca : chk gn N sc a l = true) (cs : chks gn N sc es ls = true) (h : PA X (l :: ls) t) : PE X (.Call (.Name (biS b) p1) (l :: ls) [] p) (L2.tCB (rBi g b) t) := by
  have hc := call_bi C.hK C.calm b
  obtain ⟨n1, n2, n3⟩ := biS_ok b
  obtain ⟨gl, _⟩ := glB_ok C hg
  have m := C.mgB b
  cases b <;> first
    | exact L2.pe_callB hc gl m n3 h n1 n2 (star_one (chk_plain ca).1) (chks_plain cs _ _)
    | exact L2.pe_callTy hc gl m n3 h n1 n2 (star_one (chk_plain ca).1) (chks_plain cs _ _)
theorem PE_no {t : L2.TE} (h : ∀ σ H Q, ¬ t σ H Q) : PE X e t := ⟨fun pins s σ H Q I q => (h _ _ _ q).elim⟩
theorem PT_no {t : L2.TT} (h : ∀ σ H Q, ¬ t σ H Q) : PT X e t := ⟨fun pins s σ H Q I q => (h _ _ _ q).elim⟩
theorem bi_nil (b : Bi) : bi b [] = none := by cases b <;> rfl
theorem c_bi (C : Cxt g gn Γ N k sc W X) {b : Bi} {p1 : Pos} (hg : glB sc (biS b) = true) (cs : chks gn N sc es ls = true) (h : PA X ls (T g W (RlBi g) (evP Γ es))) : PE X (.Call (.Name (biS b) p1) ls [] p) (T g W (RlO g) (ev Γ (.bi b es))) := by
  cases es with
  | nil =>
    refine PE_no fun σ H Q q => ?_
    obtain ⟨G, s, F, R, p⟩ := q
    have p : Post g W σ G H (Own F) (RlO g) Q (Res.opt (bi b []) s) := p
    rw [bi_nil] at p
    exact p
  | cons a es =>
    cases ls with
    | nil => exact ff cs
    | cons l ls =>
      have cs : (chk gn N sc a l && chks gn N sc es ls) = true := cs
      rw [Bool.and_eq_true] at cs
      refine PE_imp (pe_bi C hg cs.1 cs.2 h) fun σ H Q q => ?_
      obtain ⟨G, s, F, R, p⟩ := q
      have p : Post g W σ G H (Own F) (RlO g) Q ((evP Γ (.cons a es) s).bind fun vs s' => Res.opt (bi b vs) s') := p
      refine P_bind (f := evP Γ (.cons a es)) poor_Bi R p fun x H1 G1 s1 F1 v _ R1 hv p _ => ?_
      obtain ⟨ov, e, p⟩ := Post.opt p
      exact ⟨G1, v, ov, R1.sub, hv.2, e, p.out R1⟩
/-- a value's truth -/
theorem Post.truO {K : PySem.W.Frag} (hK : K = g.K) {A : Fp} {r : Res OV} {Q : Bool → Hp → Prop} (h : Post g W σ G H A RlB Q ((frzR r).bind fun v s2 => Res.opt (truth v) s2)) : Post g W σ G H A (RlO g) (fun x H' => ∃ k, L2.TruV K x H' k ∧ Q k H') r := by
  refine Post.frz ((Post.bind (Rl := RlV g) h).imp fun x H1 q => ?_)
  obtain ⟨G1, s1, F1, v, P, t, R1, d, q, p⟩ := q
  obtain ⟨k, e, p⟩ := Post.opt p
  exact ⟨k, tru_of hK R1.sub (PkR.of R1.sub q.2) e, Post.here R1 (p.sup fun _ z => .inr z) ⟨fun _ z => z, rfl⟩⟩
theorem t_bi (C : Cxt g gn Γ N k sc W X) {b : Bi} {p1 : Pos} (hg : glB sc (biS b) = true) (cs : chks gn N sc es ls = true) (h : PA X ls (T g W (RlBi g) (evP Γ es))) : PT X (.Call (.Name (biS b) p1) ls [] p) (T g W RlB (te Γ (.bi b es))) := by
  refine PT_imp (L2.pt_truth (c_bi C hg cs h) fun _ => rfl) fun σ H Q q => ?_
  obtain ⟨G, s, F, R, p⟩ := q
  have p : Post g W σ G H (Own F) RlB Q ((evP Γ es s).bind fun vs s' => (frzR (Res.opt (bi b vs) s')).bind fun v s1 => Res.opt (truth v) s1) := p
  refine ⟨G, s, F, R, ?_⟩
  show Post g W σ G H (Own F) (RlO g) _ ((evP Γ es s).bind fun vs s' => Res.opt (bi b vs) s')
  refine Post.truO C.hK ?_
  have e : (frzR ((evP Γ es s).bind fun vs s' => Res.opt (bi b vs) s')).bind (fun v s2 => Res.opt (truth v) s2) = (evP Γ es s).bind fun vs s' => (frzR (Res.opt (bi b vs) s')).bind fun v s1 => Res.opt (truth v) s1 := by
    cases evP Γ es s <;> rfl
  rw [e]; exact p
/-! calls -/
def RlC (g : Gm) : RL CA V := fun σ _ G _ c x P => (∀ a, ¬ P a) ∧ CaR g σ G c x
def RlCs (g : Gm) : RL (List CA) (List V) := fun σ _ G _ c x P => (∀ a, ¬ P a) ∧ CAs g σ G c x
theorem poor_C : Poor (RlC g) := fun _ _ _ _ _ _ _ h => h.1
theorem poor_Cs : Poor (RlCs g) := fun _ _ _ _ _ _ _ h => h.1
theorem c_arg (C : Cxt g gn Γ N k sc W X) {i : Bool} (ca : chk gn N sc a l = true) (ha : PE X l (T g W (RlO g) (ev Γ a))) : PE X l (T g W (RlC g) (argR a (ev Γ a) i)) := by
  have gen : ∀ {σ H G s F} {Q : VK}, RS g G H s σ F → Post g W σ G H (Own F) (RlC g) Q ((frzR (ev Γ a s)).bind fun v s' => .ok (.v v) s') → T g W (RlV g) (fun s => frzR (ev Γ a s)) σ H Q := by
    intro σ H G s F Q R p
    refine P_bind (f := fun s => frzR (ev Γ a s)) poor_V R p fun x H1 G1 s1 F1 v _ R1 hv p _ => ?_
    exact Post.here (a := CA.v v) R1 p ⟨fun _ z => z, hv.2⟩
  rcases var_or (g := g) (W := W) a with ⟨j, rfl⟩ | ⟨_, _, _, e4, _⟩
  · refine PE_imp (look_name C ca) fun σ H Q q => ?_
    obtain ⟨G, s, F, R, p⟩ := q
    have p : Post g W σ G H (Own F) (RlC g) Q (if ((getO s j).own && i) = true then .ok (.s j) s else (ev Γ (.var j) s).bind fun o s' => (Res.opt o.pv s').bind fun v s'' => .ok (.v v) s'') := p
    cases hb : ((getO s j).own && i) with
    | true =>
      rw [hb] at p
      rw [Bool.and_eq_true] at hb
      have hv : ∃ v, getV s j = some v := by
        unfold getV
        cases h : getO s j with
        | emp => rw [h] at hb; cases hb.1
        | sh v => exact ⟨_, rfl⟩
        | lst v => exact ⟨_, rfl⟩
        | obj c v => exact ⟨_, rfl⟩
      obtain ⟨v, hv⟩ := hv
      obtain ⟨_, x, ex, _⟩ := R.look hv
      exact ⟨x, ex, Post.here (a := CA.s j) R p ⟨fun _ z => z, ex⟩⟩
    | false =>
      rw [hb] at p
      have p : Post g W σ G H (Own F) (RlC g) Q ((((Res.opt (getV s j) s).bind fun v s' => .ok (OV.sh v) (if (getO s j).own then s'.set j (.sh v) else s')) : Res OV).bind fun o s' => (Res.opt o.pv s').bind fun v s'' => .ok (.v v) s'') := p
      cases hv : getV s j with
      | none => rw [hv] at p; exact p.elim
      | some v =>
        rw [hv] at p
        obtain ⟨G', F', x, t, R', ex, r⟩ := R.thaw hv
        have p : Post g W σ G H (Own F) (RlC g) Q (.ok (.v v) (if (getO s j).own then s.set j (.sh v) else s)) := p
        exact ⟨x, ex, p G' H F' none_ x (t.sub fun c z => z.elim (fun z => z.elim) id) R' (fun _ z => z.elim) ⟨fun _ z => z, r⟩⟩
  · refine PE_imp (PE_frz ha) fun σ H Q q => ?_
    obtain ⟨G, s, F, R, p⟩ := q
    rw [e4] at p
    exact gen R p
theorem g_nil {cs : List Nat} {i : Nat} : PA X [] (T g W (RlCs g) (evA Γ cs i .nil)) := PA_imp L2.pa_nil fun σ H Q q => by
  obtain ⟨G, s, F, R, p⟩ := q
  exact Post.here (a := ([] : List CA)) (b := ([] : List V)) R p ⟨fun _ z => z, rfl⟩
theorem g_cons (C : Cxt g gn Γ N k sc W X) {cs : List Nat} {i : Nat} (ca : chk gn N sc a l = true) (ha : PE X l (T g W (RlO g) (ev Γ a))) (hr : PA X ls (T g W (RlCs g) (evA Γ cs (i + 1) es))) : PA X (l :: ls) (T g W (RlCs g) (evA Γ cs i (.cons a es))) := by
  refine PA_imp (L2.pa_cons (c_arg C (i := cs.contains i) ca ha) hr (star_one (chk_plain ca).1)) fun σ H Q q => ?_
  obtain ⟨G, s, F, R, p⟩ := q
  have p : Post g W σ G H (Own F) (RlCs g) Q ((argR a (ev Γ a) (cs.contains i) s).bind fun c s' => (evA Γ cs (i + 1) es s').bind fun r s'' => .ok (c :: r) s'') := p
  refine P_bind (f := argR a (ev Γ a) (cs.contains i)) poor_C R p fun x H1 G1 s1 F1 v _ R1 hv p _ => ?_
  refine P_bind (f := evA Γ cs (i + 1) es) poor_Cs R1 p fun xs H2 G2 s2 F2 vs m2 R2 hvs p _ => ?_
  exact Post.here (a := v :: vs) R2 p ⟨fun _ z => z, x, xs, rfl, hv.2.mono m2, hvs.2⟩
theorem c_call (C : Cxt g gn Γ N k sc W X) {f : Nat} {x : Str} {p1 : Pos} (hf : isO (gn.fn f) x = true) (hg : glB sc x = true) (cs : chks gn N sc es ls = true) (h : PA X ls (T g W (RlCs g) (evA Γ (Γ.cst f) 0 es))) :
    PE X (.Call (.Name x p1) ls [] p) (T g W (RlO g) (ev Γ (.call f es))) := by
  obtain ⟨t, e1, rfl⟩ := isO_ok hf
  obtain ⟨fa, fd, ps, hm, hk, hb, F⟩ := C.fn f t e1
  obtain ⟨gl, db⟩ := glB_ok C hg
  have un : ∀ {σ H Q}, T g W (RlO g) (ev Γ (.call f es)) σ H Q → T g W (RlCs g) (evA Γ (Γ.cst f) 0 es) σ H fun xs H1 => SpF g Γ f (xs ++ []) H1 Q (fun cls d H' => W cls d σ H') := by
    intro σ H Q q
    obtain ⟨G, s, F, R, p⟩ := q
    have p : Post g W σ G H (Own F) (RlO g) Q ((evA Γ (Γ.cst f) 0 es s).bind fun cas s1 => match takeA cas s1 with
      | none => .bad
      | some q => callR (Γ.rho f q.1) cas s1 q.2) := p
    refine P_bind (f := evA Γ (Γ.cst f) 0 es) poor_Cs R p fun xs H2 G2 s2 F2 vs m2 R2 hvs p _ => ?_
    exact call_of R2 hvs.2 p
  have hx : ∀ σ, L2.PassesAt (L2.CX X.prog X.w) X σ (fun cls d H' => W cls d σ H') := fun σ => L2.passAt C.takes σ
  cases es with
  | nil =>
    cases ls with
    | cons l ls => exact ff cs
    | nil =>
      refine PE_imp (pe_callSD0 F C.room gl hm hk hb hx db) fun σ H Q q => ?_
      have q := un q
      obtain ⟨G, s, F, R, p⟩ := q
      exact Post.here (a := ([] : List CA)) (b := ([] : List V)) R p ⟨fun _ z => z, rfl⟩
  | cons a es =>
    cases ls with
    | nil => exact ff cs
    | cons l ls =>
      have cs : (chk gn N sc a l && chks gn N sc es ls) = true := cs
      rw [Bool.and_eq_true] at cs
      exact PE_imp (L2.pe_callSD F C.room gl hm hk hb .nil hx h db (star_one (chk_plain cs.1).1) (chks_plain cs.2 _ _)) fun σ H Q q => un q
theorem t_call (C : Cxt g gn Γ N k sc W X) {f : Nat} {x : Str} {p1 : Pos} (hf : isO (gn.fn f) x = true) (hg : glB sc x = true) (cs : chks gn N sc es ls = true) (h : PA X ls (T g W (RlCs g) (evA Γ (Γ.cst f) 0 es))) :
    PT X (.Call (.Name x p1) ls [] p) (T g W RlB (te Γ (.call f es))) := by
  refine PT_imp (L2.pt_truth (c_call C hf hg cs h) fun _ => rfl) fun σ H Q q => ?_
  obtain ⟨G, s, F, R, p⟩ := q
  have p : Post g W σ G H (Own F) RlB Q ((evA Γ (Γ.cst f) 0 es s).bind fun cas s1 => match takeA cas s1 with
    | none => .bad
    | some q => (frzR (callR (Γ.rho f q.1) cas s1 q.2)).bind fun v s2 => Res.opt (truth v) s2) := p
  refine ⟨G, s, F, R, ?_⟩
  show Post g W σ G H (Own F) (RlO g) _ ((evA Γ (Γ.cst f) 0 es s).bind fun cas s1 => match takeA cas s1 with
    | none => .bad
    | some q => callR (Γ.rho f q.1) cas s1 q.2)
  refine Post.truO C.hK ?_
  have e : (frzR ((evA Γ (Γ.cst f) 0 es s).bind fun cas s1 => match takeA cas s1 with
    | none => .bad
    | some q => callR (Γ.rho f q.1) cas s1 q.2)).bind (fun v s2 => Res.opt (truth v) s2) = (evA Γ (Γ.cst f) 0 es s).bind fun cas s1 => match takeA cas s1 with
    | none => .bad
    | some q => (frzR (callR (Γ.rho f q.1) cas s1 q.2)).bind fun v s2 => Res.opt (truth v) s2 := by
    cases evA Γ (Γ.cst f) 0 es s with
    | bad => rfl
    | exc e s1 => rfl
    | ok cas s1 =>
      show (frzR (match takeA cas s1 with
        | none => .bad
        | some q => callR (Γ.rho f q.1) cas s1 q.2)).bind (fun v s2 => Res.opt (truth v) s2) = match takeA cas s1 with
        | none => .bad
        | some q => (frzR (callR (Γ.rho f q.1) cas s1 q.2)).bind fun v s2 => Res.opt (truth v) s2
      cases takeA cas s1 <;> rfl
  rw [e]; exact p
end
end PF
set_option Elab.async false
set_option linter.all false
set_option maxRecDepth 100000
set_option maxHeartbeats 4000000
/-! PF, part k: isinstance; sources; comprehensions; every expression. -/
namespace PF
open PySem PySem.Spec PyProof.Rows
open L2 (V Hp HO upd upd_same upd_ne Same SqL SqT WX PE PT PA PC OpR CallR IxR SlR MtR TruR VK)
section
variable {g : Gm} {gn : GN} {Γ : Env} {N : List Tx} {k : Nat} {sc : Scope} {W : WX} {X : L2.Cx} {σ : L2.St} {H G : Hp} {a b c : Ex} {l r t x y e : Expr} {p : Pos} {s : S} {F : Nat → Fp} {es : Exs} {ls : List Expr}
/-! ### isinstance -/
theorem sqT_ty {K : PySem.W.Frag} {a : Addr} {vs : List V} (h : SqT K H a vs) : L2.TyX K H (.ref a) (.type "tuple") := by
  rcases h with (h | ⟨o, h⟩) | ⟨o, its, n, h1, h2, _⟩
  · exact .base (.tup h)
  · exact .fTuple h
  · exact .kTuple h1 h2
theorem sqL_ty {K : PySem.W.Frag} {a : Addr} {vs : List V} (h : SqL K H a vs) : L2.TyX K H (.ref a) (.type "list") := by
  rcases h with (h | ⟨o, h⟩) | ⟨o, its, n, h1, h2, _⟩
  · exact .base (.lst h)
  · exact .base (.frz h)
  · exact .kList h1 h2
theorem tyx_of (C : Cxt g gn Γ N k sc W X) (m : Same G H) {v : PV} {x : V} (h : PkR g G H v x) : L2.TyX X.K H x (typV g v) := by
  cases v with
  | non => cases (show x = _ from h); exact .base .non
  | bl b => cases (show x = _ from h); exact .base (.bl b)
  | int b => cases (show x = _ from h); exact .base (.int b)
  | str b => cases (show x = _ from h); exact .base (.str _)
  | tup _ => obtain ⟨a, vs, rfl, h1, _⟩ := h; exact sqT_ty (by rw [C.hK]; exact sqT_mono m h1)
  | lst _ => obtain ⟨a, vs, rfl, h1, _⟩ := h; exact sqL_ty (.inl (.inl h1))
  | frz _ => obtain ⟨a, vs, rfl, h1, _⟩ := h; exact sqL_ty (by rw [C.hK]; exact m.seq h1)
  | ins c _ => obtain ⟨kn, a, dx, vs, rfl, h1, _⟩ := h; exact (C.ins c .int kn).1 _ _ _ _ h1
theorem kn_of {v : PV} {x : V} (h : PkR g G H v x) : knV g v := by
  cases v <;> first | trivial | exact h.1
def tyB (gn : GN) (x : Str) : Ty → Bool
  | .cls c => isO (gn.cls c) x
  | .int => decide (tyS .int = some x) | .bool => decide (tyS .bool = some x) | .str => decide (tyS .str = some x) | .list => decide (tyS .list = some x) | .tuple => decide (tyS .tuple = some x) | .dict => decide (tyS .dict = some x)
theorem tyB_of {ty : Ty} {x : Str} {p1 : Pos} (h : chkTy gn sc ty (.Name x p1) = true) : (glB sc x && tyB gn x ty) = true := by cases ty <;> exact h
theorem kit_ok (C : Cxt g gn Γ N k sc W X) {ty : Ty} {x : Str} {p1 : Pos} (h : chkTy gn sc ty (.Name x p1) = true) (v : PV) (hk : knV g v) : PySem.W.kitOne X.K (typV g v) (tyW g ty) = some (isTy ty v) := by
  have h := tyB_of h
  rw [Bool.and_eq_true] at h
  by_cases hc : ∃ c, ty = .cls c
  · obtain ⟨c, rfl⟩ := hc
    obtain ⟨t, e, _⟩ := isO_ok (o := gn.cls c) h.2
    exact (C.cls c t e).2 v hk
  · have nc : ∀ c, ty ≠ .cls c := fun c z => hc ⟨c, z⟩
    cases v with
    | ins c fs =>
      have q := (C.ins c ty hk).2 (nc c) nc
      rw [show typV g (.ins c fs) = .ref (g.cl c) from rfl, q]
      show _ = some (decide (ty = .cls c))
      rw [decide_eq_false (nc c)]
    | non => cases ty <;> first | exact absurd rfl (nc _) | exact L2.kit_ty (by decide +kernel)
    | bl b => cases ty <;> first | exact absurd rfl (nc _) | exact (L2.kit_ty (show L2.kitB "bool" "int" = some (isTy .int (.bl true)) by decide +kernel) : PySem.W.kitOne X.K (.type "bool") (.type "int") = _) | exact (L2.kit_ty (show L2.kitB "bool" "bool" = some (isTy .bool (.bl true)) by decide +kernel) : PySem.W.kitOne X.K (.type "bool") (.type "bool") = _) | exact (L2.kit_ty (show L2.kitB "bool" "str" = some (isTy .str (.bl true)) by decide +kernel) : PySem.W.kitOne X.K (.type "bool") (.type "str") = _) | exact (L2.kit_ty (show L2.kitB "bool" "list" = some (isTy .list (.bl true)) by decide +kernel) : PySem.W.kitOne X.K (.type "bool") (.type "list") = _) | exact (L2.kit_ty (show L2.kitB "bool" "tuple" = some (isTy .tuple (.bl true)) by decide +kernel) : PySem.W.kitOne X.K (.type "bool") (.type "tuple") = _) | exact (L2.kit_ty (show L2.kitB "bool" "dict" = some (isTy .dict (.bl true)) by decide +kernel) : PySem.W.kitOne X.K (.type "bool") (.type "dict") = _)
    | int b => cases ty <;> first | exact absurd rfl (nc _) | exact (L2.kit_ty (show L2.kitB "int" "int" = some (isTy .int (.int 0)) by decide +kernel) : PySem.W.kitOne X.K (.type "int") (.type "int") = _) | exact (L2.kit_ty (show L2.kitB "int" "bool" = some (isTy .bool (.int 0)) by decide +kernel) : PySem.W.kitOne X.K (.type "int") (.type "bool") = _) | exact (L2.kit_ty (show L2.kitB "int" "str" = some (isTy .str (.int 0)) by decide +kernel) : PySem.W.kitOne X.K (.type "int") (.type "str") = _) | exact (L2.kit_ty (show L2.kitB "int" "list" = some (isTy .list (.int 0)) by decide +kernel) : PySem.W.kitOne X.K (.type "int") (.type "list") = _) | exact (L2.kit_ty (show L2.kitB "int" "tuple" = some (isTy .tuple (.int 0)) by decide +kernel) : PySem.W.kitOne X.K (.type "int") (.type "tuple") = _) | exact (L2.kit_ty (show L2.kitB "int" "dict" = some (isTy .dict (.int 0)) by decide +kernel) : PySem.W.kitOne X.K (.type "int") (.type "dict") = _)
    | str b => cases ty <;> first | exact absurd rfl (nc _) | exact (L2.kit_ty (show L2.kitB "str" "int" = some (isTy .int (.str [])) by decide +kernel) : PySem.W.kitOne X.K (.type "str") (.type "int") = _) | exact (L2.kit_ty (show L2.kitB "str" "bool" = some (isTy .bool (.str [])) by decide +kernel) : PySem.W.kitOne X.K (.type "str") (.type "bool") = _) | exact (L2.kit_ty (show L2.kitB "str" "str" = some (isTy .str (.str [])) by decide +kernel) : PySem.W.kitOne X.K (.type "str") (.type "str") = _) | exact (L2.kit_ty (show L2.kitB "str" "list" = some (isTy .list (.str [])) by decide +kernel) : PySem.W.kitOne X.K (.type "str") (.type "list") = _) | exact (L2.kit_ty (show L2.kitB "str" "tuple" = some (isTy .tuple (.str [])) by decide +kernel) : PySem.W.kitOne X.K (.type "str") (.type "tuple") = _) | exact (L2.kit_ty (show L2.kitB "str" "dict" = some (isTy .dict (.str [])) by decide +kernel) : PySem.W.kitOne X.K (.type "str") (.type "dict") = _)
    | tup b => cases ty <;> first | exact absurd rfl (nc _) | exact (L2.kit_ty (show L2.kitB "tuple" "int" = some (isTy .int (.tup [])) by decide +kernel) : PySem.W.kitOne X.K (.type "tuple") (.type "int") = _) | exact (L2.kit_ty (show L2.kitB "tuple" "bool" = some (isTy .bool (.tup [])) by decide +kernel) : PySem.W.kitOne X.K (.type "tuple") (.type "bool") = _) | exact (L2.kit_ty (show L2.kitB "tuple" "str" = some (isTy .str (.tup [])) by decide +kernel) : PySem.W.kitOne X.K (.type "tuple") (.type "str") = _) | exact (L2.kit_ty (show L2.kitB "tuple" "list" = some (isTy .list (.tup [])) by decide +kernel) : PySem.W.kitOne X.K (.type "tuple") (.type "list") = _) | exact (L2.kit_ty (show L2.kitB "tuple" "tuple" = some (isTy .tuple (.tup [])) by decide +kernel) : PySem.W.kitOne X.K (.type "tuple") (.type "tuple") = _) | exact (L2.kit_ty (show L2.kitB "tuple" "dict" = some (isTy .dict (.tup [])) by decide +kernel) : PySem.W.kitOne X.K (.type "tuple") (.type "dict") = _)
    | lst b => cases ty <;> first | exact absurd rfl (nc _) | exact (L2.kit_ty (show L2.kitB "list" "int" = some (isTy .int (.lst [])) by decide +kernel) : PySem.W.kitOne X.K (.type "list") (.type "int") = _) | exact (L2.kit_ty (show L2.kitB "list" "bool" = some (isTy .bool (.lst [])) by decide +kernel) : PySem.W.kitOne X.K (.type "list") (.type "bool") = _) | exact (L2.kit_ty (show L2.kitB "list" "str" = some (isTy .str (.lst [])) by decide +kernel) : PySem.W.kitOne X.K (.type "list") (.type "str") = _) | exact (L2.kit_ty (show L2.kitB "list" "list" = some (isTy .list (.lst [])) by decide +kernel) : PySem.W.kitOne X.K (.type "list") (.type "list") = _) | exact (L2.kit_ty (show L2.kitB "list" "tuple" = some (isTy .tuple (.lst [])) by decide +kernel) : PySem.W.kitOne X.K (.type "list") (.type "tuple") = _) | exact (L2.kit_ty (show L2.kitB "list" "dict" = some (isTy .dict (.lst [])) by decide +kernel) : PySem.W.kitOne X.K (.type "list") (.type "dict") = _)
    | frz b => cases ty <;> first | exact absurd rfl (nc _) | exact (L2.kit_ty (show L2.kitB "list" "int" = some (isTy .int (.frz [])) by decide +kernel) : PySem.W.kitOne X.K (.type "list") (.type "int") = _) | exact (L2.kit_ty (show L2.kitB "list" "bool" = some (isTy .bool (.frz [])) by decide +kernel) : PySem.W.kitOne X.K (.type "list") (.type "bool") = _) | exact (L2.kit_ty (show L2.kitB "list" "str" = some (isTy .str (.frz [])) by decide +kernel) : PySem.W.kitOne X.K (.type "list") (.type "str") = _) | exact (L2.kit_ty (show L2.kitB "list" "list" = some (isTy .list (.frz [])) by decide +kernel) : PySem.W.kitOne X.K (.type "list") (.type "list") = _) | exact (L2.kit_ty (show L2.kitB "list" "tuple" = some (isTy .tuple (.frz [])) by decide +kernel) : PySem.W.kitOne X.K (.type "list") (.type "tuple") = _) | exact (L2.kit_ty (show L2.kitB "list" "dict" = some (isTy .dict (.frz [])) by decide +kernel) : PySem.W.kitOne X.K (.type "list") (.type "dict") = _)
def tyA (g : Gm) : Ty → V
  | .int => .ty "int" | .bool => .ty "bool" | .str => .ty "str" | .list => .ty "list" | .tuple => .ty "tuple" | .dict => .ty "dict" | .cls c => .ref (g.cl c)
theorem tyA_ok (ty : Ty) : L2.ClsV (tyA g ty) (tyW g ty) := by cases ty <;> first | exact .ty _ | exact .own _
theorem ty_name {ty : Ty} (h : chkTy gn sc ty e = true) : ∃ x p1, e = .Name x p1 := by
  cases e <;> first | exact ff h | exact ⟨_, _, rfl⟩
theorem pe_ty (C : Cxt g gn Γ N k sc W X) {ty : Ty} (h : chkTy gn sc ty e = true) : PE X e (L2.tC (tyA g ty)) := by
  obtain ⟨x, p1, rfl⟩ := ty_name h
  have h := tyB_of h
  rw [Bool.and_eq_true] at h
  obtain ⟨gl, db⟩ := glB_ok C h.1
  cases ty with
  | cls c =>
    obtain ⟨t, e, rfl⟩ := isO_ok (o := gn.cls c) h.2
    exact L2.pe_glob gl (C.cls c t e).1 rfl db
  | int =>
    obtain rfl : "int" = x := Option.some.inj (of_decide_eq_true h.2)
    exact L2.pe_bltn gl (C.mgT .int _ rfl) (by decide +kernel) rfl (by decide) db
  | bool =>
    obtain rfl : "bool" = x := Option.some.inj (of_decide_eq_true h.2)
    exact L2.pe_bltn gl (C.mgT .bool _ rfl) (by decide +kernel) rfl (by decide) db
  | str =>
    obtain rfl : "str" = x := Option.some.inj (of_decide_eq_true h.2)
    exact L2.pe_bltn gl (C.mgT .str _ rfl) (by decide +kernel) rfl (by decide) db
  | list =>
    obtain rfl : "list" = x := Option.some.inj (of_decide_eq_true h.2)
    exact L2.pe_bltn gl (C.mgT .list _ rfl) (by decide +kernel) rfl (by decide) db
  | tuple =>
    obtain rfl : "tuple" = x := Option.some.inj (of_decide_eq_true h.2)
    exact L2.pe_bltn gl (C.mgT .tuple _ rfl) (by decide +kernel) rfl (by decide) db
  | dict =>
    obtain rfl : "dict" = x := Option.some.inj (of_decide_eq_true h.2)
    exact L2.pe_bltn gl (C.mgT .dict _ rfl) (by decide +kernel) rfl (by decide) db
def tTys (g : Gm) : List Ty → L2.TA
  | [] => L2.tNil
  | ty :: r => L2.tCons (L2.tC (tyA g ty)) (tTys g r)
theorem tTys_ok : ∀ {tys : List Ty} {Q : List V → Hp → Prop}, Q (tys.map (tyA g)) H → tTys g tys σ H Q
  | [], Q, h => h
  | ty :: r, Q, h => tTys_ok (tys := r) (Q := fun xs H2 => Q (tyA g ty :: xs) H2) h
theorem pa_tys (C : Cxt g gn Γ N k sc W X) : ∀ {tys : List Ty} {ls : List Expr}, chkTys gn sc tys ls = true → PA X ls (tTys g tys) ∧ tys.length = ls.length ∧ ∀ ty, ty ∈ tys → ∀ v, knV g v → PySem.W.kitOne X.K (typV g v) (tyW g ty) = some (isTy ty v)
  | [], [], _ => ⟨L2.pa_nil, rfl, fun _ h => by cases h⟩
  | [], _ :: _, h => ff h
  | _ :: _, [], h => ff h
  | ty :: tys, e :: ls, h => by
    have h : (chkTy gn sc ty e && chkTys gn sc tys ls) = true := h
    rw [Bool.and_eq_true] at h
    obtain ⟨h1, h2, h3⟩ := pa_tys C h.2
    obtain ⟨x, p1, rfl⟩ := ty_name h.1
    refine ⟨L2.pa_cons (pe_ty C h.1) h1 rfl, by simp [h2], fun t ht v hk => ?_⟩
    rcases List.mem_cons.mp ht with z | z
    · subst z; exact kit_ok C h.1 v hk
    · exact h3 t z v hk
theorem kitAny_ok {K : PySem.W.Frag} {t : Value} {v : PV} : ∀ {tys : List Ty}, (∀ ty, ty ∈ tys → PySem.W.kitOne K t (tyW g ty) = some (isTy ty v)) → PySem.W.kitAny K t (tys.map (tyW g)) = some (tys.any fun ty => isTy ty v)
  | [], _ => rfl
  | ty :: r, h => L2.kitAny_cons (h ty List.mem_cons_self) (fun e => by
      rw [kitAny_ok fun t ht => h t (List.mem_cons_of_mem _ ht), List.any_cons, e, Bool.false_or]) fun e => by rw [List.any_cons, e, Bool.true_or]
theorem paired_tys : ∀ tys : List Ty, Paired L2.ClsV (tys.map (tyA g)) (tys.map (tyW g))
  | [] => .nil
  | ty :: r => .cons (tyA_ok ty) (paired_tys r)
theorem pe_isi (C : Cxt g gn Γ N k sc W X) {tys : List Ty} {tp : Bool} {p1 : Pos} (hg : glB sc "isinstance" = true) (ca : chk gn N sc a l = true) (ha : PE X l (T g W (RlO g) (ev Γ a)))
    (ht : (∃ ty, tp = false ∧ tys = [ty] ∧ chkTy gn sc ty t = true) ∨ (∃ l n p2, tp = true ∧ t = .Tuple l n p2 ∧ l.length ≤ 1000 ∧ chkTys gn sc tys l = true)) :
    PE X (.Call (.Name "isinstance" p1) [l, t] [] p) (fun σ H Q => T g W (RlP g) (peek a (ev Γ a)) σ H fun x H1 => ∃ G v, Same G H1 ∧ PkR g G H1 v x ∧ ∀ H2, (H2 = H1 ∨ ∃ z u, H1 z = none ∧ H2 = upd H1 z u) → Q (.bl (tys.any fun ty => isTy ty v)) H2) := by
  obtain ⟨gl, db⟩ := glB_ok C hg
  have m := C.mgR.2.2.2
  rcases ht with ⟨ty, rfl, rfl, ht⟩ | ⟨ls, n, p2, rfl, rfl, hl, ht⟩
  · obtain ⟨x, p3, rfl⟩ := ty_name ht
    refine PE_imp (L2.pe_callB L2.call_isi gl m PyProof.Rows.boot_isinstance (L2.pa_cons (c_peek C ca ha) (L2.pa_cons (pe_ty C ht) L2.pa_nil rfl) (star_one (chk_plain ca).1)) (by decide) db (star_one (chk_plain ca).1) rfl) fun σ H Q q => ?_
    refine T_mono q fun x H1 q => ?_
    obtain ⟨G, v, m1, hv, q⟩ := q
    refine ⟨x, tyA g ty, typV g v, tyW g ty, isTy ty v, rfl, tyA_ok ty, tyx_of C m1 hv, kit_ok C ht v (kn_of hv), ?_⟩
    have q := q H1 (.inl rfl)
    rw [List.any_cons, List.any_nil, Bool.or_false] at q
    exact q
  · obtain ⟨h1, h2, h3⟩ := pa_tys C ht
    refine PE_imp (L2.pe_callB L2.call_isiT gl m PyProof.Rows.boot_isinstance (L2.pa_cons (c_peek C ca ha) (L2.pa_cons (L2.pe_tup h1) L2.pa_nil rfl) (star_one (chk_plain ca).1)) (by decide) db (star_one (chk_plain ca).1) rfl) fun σ H Q q => ?_
    refine T_mono q fun x H1 q => ?_
    obtain ⟨G, v, m1, hv, q⟩ := q
    refine tTys_ok (tys := tys) ?_
    refine ⟨by rw [List.length_map, h2, sizeLine_eq]; exact Nat.le_trans hl (by decide), fun z hz => ?_⟩
    refine ⟨x, z, tys.map (tyA g), typV g v, tys.map (tyW g), tys.any fun ty => isTy ty v, rfl, upd_same, paired_tys tys, ?_, kitAny_ok fun ty hty => h3 ty hty v (kn_of hv), q _ (.inr ⟨z, _, hz, rfl⟩)⟩
    refine tyx_of C (m1.trans (same_upd hz)) ?_
    cases v with
    | lst xs =>
      obtain ⟨b, vs, e, h, r⟩ := hv
      exact ⟨b, vs, e, by rw [upd_ne (L2.ne_of_none h hz)]; exact h, r⟩
    | ins c fs =>
      obtain ⟨kn, b, dx, vs, e, h, r⟩ := hv
      exact ⟨kn, b, dx, vs, e, by rw [upd_ne (L2.ne_of_none h hz)]; exact h, r⟩
    | _ => exact hv
theorem c_isi (C : Cxt g gn Γ N k sc W X) {tys : List Ty} {tp : Bool} {p1 : Pos} (hg : glB sc "isinstance" = true) (ca : chk gn N sc a l = true) (ha : PE X l (T g W (RlO g) (ev Γ a)))
    (ht : (∃ ty, tp = false ∧ tys = [ty] ∧ chkTy gn sc ty t = true) ∨ (∃ l n p2, tp = true ∧ t = .Tuple l n p2 ∧ l.length ≤ 1000 ∧ chkTys gn sc tys l = true)) :
    PE X (.Call (.Name "isinstance" p1) [l, t] [] p) (T g W (RlO g) (ev Γ (.isi a tys tp))) := by
  refine PE_imp (pe_isi C hg ca ha ht) fun σ H Q q => ?_
  obtain ⟨G, s, F, R, p⟩ := q
  have p : Post g W σ G H (Own F) (RlO g) Q ((peek a (ev Γ a) s).bind fun v s' => .ok (.sh (.bl (tys.any fun t => isTy t v))) s') := p
  refine P_bind (f := peek a (ev Γ a)) poor_P R p fun x H1 G1 s1 F1 v _ R1 hv p _ => ?_
  refine ⟨G1, v, R1.sub, hv.2, fun H2 h2 => ?_⟩
  rcases h2 with rfl | ⟨z, u, hz, rfl⟩
  · exact here_sh R1 p rep_bl
  · exact p G1 _ F1 none_ _ ((Stp.new (G := G1) (A := Own F1) hz).sub fun c q => q.elim (fun q => q.elim) .inr) (R1.new hz) (fun _ z => z.elim) ⟨fun _ z => z, _, rfl, rep_bl⟩
theorem t_isi (C : Cxt g gn Γ N k sc W X) {tys : List Ty} {tp : Bool} {p1 : Pos} (hg : glB sc "isinstance" = true) (ca : chk gn N sc a l = true) (ha : PE X l (T g W (RlO g) (ev Γ a)))
    (ht : (∃ ty, tp = false ∧ tys = [ty] ∧ chkTy gn sc ty t = true) ∨ (∃ l n p2, tp = true ∧ t = .Tuple l n p2 ∧ l.length ≤ 1000 ∧ chkTys gn sc tys l = true)) :
    PT X (.Call (.Name "isinstance" p1) [l, t] [] p) (T g W RlB (te Γ (.isi a tys tp))) := by
  refine PT_imp (L2.pt_truth (pe_isi C hg ca ha ht) fun _ => rfl) fun σ H Q q => ?_
  obtain ⟨G, s, F, R, p⟩ := q
  have p : Post g W σ G H (Own F) RlB Q ((peek a (ev Γ a) s).bind fun v s' => .ok (tys.any fun t => isTy t v) s') := p
  refine P_bind (f := peek a (ev Γ a)) poor_P R p fun x H1 G1 s1 F1 v _ R1 hv p _ => ?_
  refine ⟨G1, v, R1.sub, hv.2, fun H2 h2 => ⟨_, rfl, ?_⟩⟩
  rcases h2 with rfl | ⟨z, u, hz, rfl⟩
  · exact here_b R1 p
  · exact p G1 _ F1 none_ _ ((Stp.new (G := G1) (A := Own F1) hz).sub fun c q => q.elim (fun q => q.elim) .inr) (R1.new hz) (fun _ z => z.elim) ⟨fun _ z => z, rfl⟩

/-! ### what loops walk -/
theorem src_enumT {a : Addr} {vs : List V} {xs : List PV} {Pr : Fp} (h : SqT g.K G a vs) (r : Reps g G xs vs) : SrcOk g (IteT g.K a) (enumL 0 xs) Pr G H where
  go := fun G' H' m m1 kp i hi => by
    rw [enumL_len] at hi
    have hj : i < vs.length := by rw [← r.length]; exact hi
    exact ⟨vs, vs[i], sqT_mono (m1.trans m) h, by simp [hj]⟩
  stop := fun G' H' m m1 kp => ⟨vs, sqT_mono (m1.trans m) h, by rw [enumL_len, r.length]⟩
  yld := fun G' H' m m1 kp i x H2 y v ev => by
    obtain ⟨T, z, rfl, n, rfl, y⟩ := y
    obtain ⟨w, ew, rfl⟩ := enumL_get ev
    obtain ⟨u, eu, ru⟩ := r.get ew
    have q := y vs (sqT_mono (m1.trans m) h)
    rw [eu] at q; cases q
    have e0 : ((0 + i : Nat) : Int) = (i : Nat) := by simp
    rw [e0]
    exact pair_new m n (rep_int (i := (i : Nat))) (Rep.mono m1 _ _ ru)
theorem noset (h : chk gn N sc a e = true) (env : PySem.Env) (x : Value) : foldedSetIterable e env x = pure x := by
  cases e <;> first | rfl | (cases a <;> exact ff h)
theorem noset_call {f : Expr} {ks : List Keyword} (env : PySem.Env) (x : Value) : foldedSetIterable (.Call f ls ks p) env x = pure x := rfl
/-- a sequence that a loop or enumerate opens: its items, and the lock -/
theorem open_of (R : RS g G H s σ F) (C : Cxt g gn Γ N k sc W X) {J1 J2 : PySem.W.Frag → Addr → L2.It} {fx : List PV → List PV} {Q : L2.It → Hp → Prop} (ca : chk gn N sc a l = true)
    (p : Post g W σ G H (Own F) (RlS g) Q ((openSeq a (ev Γ a) s).bind fun p s' => (Res.opt (items p.1) s').bind fun xs s'' => .ok (fx xs, p.2) s''))
    (j1 : ∀ {b vs xs Pr G H}, (∀ G' H', Same G' H' → Same G G' → (∀ a o, Pr a → H a = some o → H' a = some o) → SqL g.K H' b vs) → Reps g G xs vs → SrcOk g (J1 g.K b) (fx xs) Pr G H)
    (j2 : ∀ {b vs xs Pr G H}, SqT g.K G b vs → Reps g G xs vs → SrcOk g (J2 g.K b) (fx xs) Pr G H) :
    tPk g W a (ev Γ a) σ H fun x H1 => ∃ b vs, x = .ref b ∧ ((SqL g.K H1 b vs ∧ Q (J1 g.K b) H1) ∨ (SqT g.K H1 b vs ∧ Q (J2 g.K b) H1)) := by
  have sh : ∀ {G1 H1 : Hp} {s1 : S} {F1 : Nat → Fp} {v : PV} {x : V}, RS g G1 H1 s1 σ F1 → Rep g G1 v x → Post g W σ G1 H1 (Own F1) (RlS g) Q ((Res.opt (items v) s1).bind fun xs s'' => .ok (fx xs, none) s'') →
      ∃ b vs, x = .ref b ∧ ((SqL g.K H1 b vs ∧ Q (J1 g.K b) H1) ∨ (SqT g.K H1 b vs ∧ Q (J2 g.K b) H1)) := by
    intro G1 H1 s1 F1 v x R1 hv p
    cases e : items v with
    | none => rw [e] at p; exact p.elim
    | some xs =>
      rw [e] at p
      cases v with
      | tup ys =>
        cases e
        obtain ⟨b, vs, rfl, h1, r⟩ := hv
        exact ⟨b, vs, rfl, .inr ⟨sqT_mono R1.sub h1, Post.here (a := (fx xs, (none : Lk))) R1 p ⟨fun _ z => z, j2 h1 r⟩⟩⟩
      | lst ys =>
        cases e
        obtain ⟨b, vs, rfl, h1, r⟩ := hv
        exact ⟨b, vs, rfl, .inl ⟨.inl (.inl (R1.sub _ _ h1)), Post.here (a := (fx xs, (none : Lk))) R1 p ⟨fun _ z => z, j1 (fun G' H' m m1 _ => .inl (.inl (m _ _ (m1 _ _ h1)))) r⟩⟩⟩
      | frz ys =>
        cases e
        obtain ⟨b, vs, rfl, h1, r⟩ := hv
        exact ⟨b, vs, rfl, .inl ⟨R1.sub.seq h1, Post.here (a := (fx xs, (none : Lk))) R1 p ⟨fun _ z => z, j1 (fun G' H' m m1 _ => (m1.trans m).seq h1) r⟩⟩⟩
      | _ => cases e
  rcases var_or (g := g) (W := W) a with ⟨i, rfl⟩ | ⟨e1, _, _, _, e5⟩
  · have p : Post g W σ G H (Own F) (RlS g) Q (((Res.opt (getV s i) s).bind fun v s' => (.ok (v, if (getO s i).own then some (i, getO s i) else none) s' : Res (PV × Lk))).bind fun p s' => (Res.opt (items p.1) s').bind fun xs s'' => .ok (fx xs, p.2) s'') := p
    cases hv : getV s i with
    | none => rw [hv] at p; exact p.elim
    | some v =>
      rw [hv] at p
      obtain ⟨hi, x, ex, pk⟩ := R.look hv
      cases ho : (getO s i).own with
      | false =>
        rw [ho] at p
        have p : Post g W σ G H (Own F) (RlS g) Q ((Res.opt (items v) s).bind fun xs s'' => .ok (fx xs, none) s'') := p
        refine ⟨x, ex, sh R ?_ p⟩
        have h := R.at_ i hi
        unfold getV at hv
        cases q : getO s i with
        | emp => rw [q] at hv; cases hv
        | sh w =>
          rw [q] at hv h
          cases hv
          obtain ⟨_, y, ey, r⟩ := h
          rw [ex] at ey; cases ey
          exact r
        | lst xs => rw [q] at ho; cases ho
        | obj c fs => rw [q] at ho; cases ho
      | true =>
        rw [ho] at p
        have p : Post g W σ G H (Own F) (RlS g) Q ((Res.opt (items v) s).bind fun xs s'' => .ok (fx xs, some (i, getO s i)) s'') := p
        unfold getV at hv
        cases q : getO s i with
        | emp => rw [q] at hv; cases hv
        | sh w => rw [q] at ho; cases ho
        | obj c fs =>
          rw [q] at hv; cases hv
          exact p.elim
        | lst xs =>
          rw [q] at hv p
          cases hv
          have p : Post g W σ G H (Own F) (RlS g) Q (.ok (fx xs, some (i, .lst xs)) s) := p
          obtain ⟨b, vs, rfl, h1, r⟩ := pk
          refine ⟨_, ex, b, vs, rfl, .inl ⟨.inl (.inl h1), Post.here R p ⟨fun _ z => z, q.symm, rfl, hi, fun Pr hPr => j1 (fun G' H' m m1 kp => ?_) r⟩⟩⟩
          rw [ex] at hPr
          obtain ⟨b', vs', e0, ep, h2, _⟩ := hPr
          cases e0
          exact .inl (.inl (kp b _ ((ep b).mpr rfl) h1))
  · rw [e1]
    rw [e5] at p
    have p : Post g W σ G H (Own F) (RlS g) Q ((frzR (ev Γ a s)).bind fun v s' => (Res.opt (items v) s').bind fun xs s'' => .ok (fx xs, none) s'') := by
      have e : ((frzR (ev Γ a s)).bind fun v s' => (Res.opt (items v) s').bind fun xs s'' => (.ok (fx xs, none) s'' : Res (List PV × Lk))) = ((frzR (ev Γ a s)).bind fun v s' => .ok (v, none) s').bind fun p s' => (Res.opt (items p.1) s').bind fun xs s'' => .ok (fx xs, p.2) s'' := by
        cases frzR (ev Γ a s) <;> rfl
      rw [e]; exact p
    exact P_bind (f := fun s => frzR (ev Γ a s)) poor_V R p fun x H1 G1 s1 F1 v _ R1 hv p _ => sh R1 hv.2 p
theorem s_seq (C : Cxt g gn Γ N k sc W X) (ca : chk gn N sc a l = true) (ha : PE X l (T g W (RlO g) (ev Γ a))) : L2.PI X t l (TI g W (srcs Γ (.seq a))) := by
  refine PI_imp (pi_seq (c_pk C ca ha)) fun σ H Q q => ?_
  obtain ⟨G, s, F, R, p⟩ := q
  refine tPk_mono (open_of (J1 := L2.Itl) (J2 := L2.Itt) (fx := id) R C ca p (fun k r => src_list k r) fun h r => src_tup h r) fun x H1 q => ?_
  rw [C.hK]; exact q
theorem s_enum (C : Cxt g gn Γ N k sc W X) {p1 : Pos} (hg : glB sc "enumerate" = true) (ca : chk gn N sc a l = true) (ha : PE X l (T g W (RlO g) (ev Γ a))) (ht : isTup t = true) : L2.PI X t (.Call (.Name "enumerate" p1) [l] [] p) (TI g W (srcs Γ (.enum a))) := by
  obtain ⟨gl, db⟩ := glB_ok C hg
  obtain ⟨tl, n, p3, rfl⟩ := isTup_ok ht
  refine PI_imp (pi_enumA gl C.mgR.2.1 (L2.pa_cons (c_pk C ca ha) L2.pa_nil (star_one (chk_plain ca).1)) (by rw [star_one (chk_plain ca).1]; rfl)) fun σ H Q q => ?_
  obtain ⟨G, s, F, R, p⟩ := q
  refine tPk_mono (open_of (J1 := L2.Ite) (J2 := IteT) (fx := enumL 0) R C ca p (fun k r => src_enum k r) fun h r => src_enumT h r) fun x H1 q => ?_
  obtain ⟨b, vs, e, q⟩ := q
  exact ⟨b, vs, by rw [e], by rw [C.hK]; exact q⟩
theorem s_rng (C : Cxt g gn Γ N k sc W X) {p1 : Pos} (hg : glB sc "range" = true) (ca : chk gn N sc a l = true) (ha : PE X l (T g W (RlO g) (ev Γ a))) : L2.PI X t (.Call (.Name "range" p1) [l] [] p) (TI g W (srcs Γ (.rng a))) := by
  obtain ⟨gl, db⟩ := glB_ok C hg
  refine PI_imp (L2.pi_range1 gl C.mgR.1 (L2.pa_cons (PE_frz ha) L2.pa_nil (star_one (chk_plain ca).1)) (by rw [star_one (chk_plain ca).1]; rfl)) fun σ H Q q => ?_
  obtain ⟨G, s, F, R, p⟩ := q
  have p : Post g W σ G H (Own F) (RlS g) Q ((intR (frzR (ev Γ a s))).bind fun n s' => if rngOk 0 n then .ok (rngL 0 n, none) s' else .bad) := p
  have q := P_bind (f := fun s => intR (frzR (ev Γ a s))) (Q2 := fun j H1 => -(2 ^ 62) ≤ j ∧ j < 2 ^ 62 ∧ Q (L2.Itr 0 j.toNat) H1) poor_N R p fun j H1 G1 s1 F1 v _ R1 hv p _ => by
    have ev := hv.2
    subst ev
    cases e : rngOk 0 v with
    | false => rw [e] at p; exact p.elim
    | true =>
      rw [e] at p
      unfold rngOk at e
      simp only [decide_eq_true_eq] at e
      refine ⟨e.2.2.1, e.2.2.2, Post.here (a := (rngL 0 v, (none : Lk))) R1 p ⟨fun _ z => z, ?_⟩⟩
      have e3 : (v - 0).toNat = v.toNat := by rw [Int.sub_zero]
      have q := src_rng (g := g) (lo := 0) (hi := v) (Pr := none_) (G := G1) (H := H1)
      rw [e3] at q
      exact q
  obtain ⟨G, s, F, R, p⟩ := q
  refine ⟨G, s, F, R, p.intR.imp fun x H1 q => ?_⟩
  obtain ⟨i, rfl, q1, q2, q3⟩ := q
  exact ⟨i, rfl, q1, q2, q3⟩
theorem s_rng2 (C : Cxt g gn Γ N k sc W X) {p1 : Pos} (hg : glB sc "range" = true) (ca : chk gn N sc a l = true) (cb : chk gn N sc b r = true) (ha : PE X l (T g W (RlO g) (ev Γ a))) (hb : PE X r (T g W (RlO g) (ev Γ b))) :
    L2.PI X t (.Call (.Name "range" p1) [l, r] [] p) (TI g W (srcs Γ (.rng2 a b))) := by
  obtain ⟨gl, db⟩ := glB_ok C hg
  refine PI_imp (L2.pi_range2 gl C.mgR.1 (L2.pa_cons (PE_frz ha) (L2.pa_cons (PE_frz hb) L2.pa_nil (star_one (chk_plain cb).1)) (star_one (chk_plain ca).1)) (by rw [star_one (chk_plain ca).1, star_one (chk_plain cb).1]; rfl) (by rw [star_one (chk_plain cb).1]; rfl)) fun σ H Q q => ?_
  obtain ⟨G, s, F, R, p⟩ := q
  have p : Post g W σ G H (Own F) (RlS g) Q ((intR (frzR (ev Γ a s))).bind fun m s1 => (intR (frzR (ev Γ b s1))).bind fun n s' => if rngOk m n then .ok (rngL m n, none) s' else .bad) := p
  have q := P_bind (f := fun s => intR (frzR (ev Γ a s))) (Q2 := fun i H1 => T g W RlN (fun s => intR (frzR (ev Γ b s))) σ H1 fun j H1 => (-(2 ^ 62) ≤ i ∧ i < 2 ^ 62 ∧ -(2 ^ 62) ≤ j ∧ j < 2 ^ 62) ∧ Q (L2.Itr i (j - i).toNat) H1) poor_N R p fun i H1 G1 s1 F1 u _ R1 hu p _ => by
    have eu := hu.2
    subst eu
    refine P_bind (f := fun s => intR (frzR (ev Γ b s))) poor_N R1 p fun j H1 G1 s1 F1 v _ R1 hv p _ => ?_
    have ev := hv.2
    subst ev
    cases e : rngOk u v with
    | false => rw [e] at p; exact p.elim
    | true =>
      rw [e] at p
      unfold rngOk at e
      simp only [decide_eq_true_eq] at e
      exact ⟨e, Post.here (a := (rngL u v, (none : Lk))) R1 p ⟨fun _ z => z, src_rng⟩⟩
  obtain ⟨G, s, F, R, p⟩ := q
  refine ⟨G, s, F, R, p.intR.imp fun x H1 q => ?_⟩
  obtain ⟨i, rfl, G, s, F, R, p⟩ := q
  refine ⟨G, s, F, R, p.intR.imp fun x H1 q => ?_⟩
  obtain ⟨j, rfl, q1, q2⟩ := q
  exact ⟨i, j, rfl, q1, q2⟩
theorem s_zip (C : Cxt g gn Γ N k sc W X) {p1 : Pos} (hg : glB sc "zip" = true) (ca : chk gn N sc a l = true) (cb : chk gn N sc b r = true) (ha : PE X l (T g W (RlO g) (ev Γ a))) (hb : PE X r (T g W (RlO g) (ev Γ b))) (ht : isTup t = true) :
    L2.PI X t (.Call (.Name "zip" p1) [l, r] [] p) (TI g W (srcs Γ (.zip a b))) := by
  obtain ⟨gl, db⟩ := glB_ok C hg
  obtain ⟨tl, n, p3, rfl⟩ := isTup_ok ht
  refine PI_imp (RZ.pi_zipA gl C.mgR.2.2.1 (L2.pa_cons (PE_frz ha) (L2.pa_cons (PE_frz hb) L2.pa_nil (star_one (chk_plain cb).1)) (star_one (chk_plain ca).1)) (star_one (chk_plain ca).1) (by rw [star_one (chk_plain cb).1]; rfl)) fun σ H Q q => ?_
  obtain ⟨G, s, F, R, p⟩ := q
  have p : Post g W σ G H (Own F) (RlS g) Q ((frzR (ev Γ a s)).bind fun x s1 => (frzR (ev Γ b s1)).bind fun y s2 => (Res.opt (zipP x y) s2).bind fun xs s3 => .ok (xs, none) s3) := p
  refine P_bind (f := fun s => frzR (ev Γ a s)) poor_V R p fun x H1 G1 s1 F1 v _ R1 hv p _ => ?_
  refine P_bind (f := fun s => frzR (ev Γ b s)) poor_V R1 p fun y H2 G2 s2 F2 w m2 R2 hw p _ => ?_
  have hv := Rep.mono m2 _ _ hv.2
  have hw := hw.2
  cases e : zipP v w with
  | none => rw [e] at p; exact p.elim
  | some xs =>
    rw [e] at p
    rw [C.hK]
    unfold zipP at e
    split at e
    · cases e
      obtain ⟨b1, vs, rfl, h1, r1⟩ := hv
      obtain ⟨b2, ws, rfl, h2, r2⟩ := hw
      exact ⟨b1, b2, vs, ws, rfl, .inr ⟨sqT_mono R2.sub h1, sqT_mono R2.sub h2, Post.here (a := (_, (none : Lk))) R2 p ⟨fun _ z => z, src_zipT h1 h2 r1 r2⟩⟩⟩
    · cases e
      obtain ⟨b1, vs, rfl, h1, r1⟩ := hv
      obtain ⟨b2, ws, rfl, h2, r2⟩ := hw
      exact ⟨b1, b2, vs, ws, rfl, .inl ⟨.inl (.inl (R2.sub _ _ h1)), .inl (.inl (R2.sub _ _ h2)), Post.here (a := (_, (none : Lk))) R2 p ⟨fun _ z => z, src_zipL (.inl (.inl h1)) (.inl (.inl h2)) r1 r2⟩⟩⟩
    · cases e
end
end PF
set_option Elab.async false
set_option linter.all false
set_option maxRecDepth 100000
set_option maxHeartbeats 4000000
/-! PF, part l: comprehensions; every expression. -/
namespace PF
open PySem PySem.Spec PyProof.Rows
open L2 (V Hp HO upd upd_same upd_ne Same SqL SqT WX PE PT PA PC OpR CallR IxR SlR MtR TruR VK)
abbrev W0 : WX := fun _ _ _ _ => False
section
variable {g : Gm} {gn : GN} {Γ : Env} {N : List Tx} {k : Nat} {sc : Scope} {W : WX} {X : L2.Cx} {σ : L2.St} {H G : Hp} {a b c : Ex} {l r t x y e : Expr} {p : Pos} {s : S} {F : Nat → Fp} {es : Exs} {ls : List Expr}
theorem Cxt.blk (C : Cxt g gn Γ N k sc W X) (s : Shared) (H : Hp) (scope : Scope) (Ca : Addr) (cl : List (Str × Addr)) (fp : List Addr) : Cxt g gn Γ N k (L2.relS scope sc) W0 (X.blk s H scope (compEnvC scope cl Ca X.env) fp) where
  hK := C.hK
  hN := C.hN
  nd := C.nd
  hsc := by
    have h := C.hsc
    show L2.relS scope X.env.scope = _
    rw [h]
  calm := C.calm
  takes := fun u s' ⟨_, _, _, _, _, _, _, _, _, _, _, _, _, _, _, _, w⟩ => w.elim
  room := C.room
  glb := C.glb
  fn := C.fn
  cls := C.cls
  ins := C.ins
  mgB := C.mgB
  mgT := C.mgT
  mgR := C.mgR
theorem asgR_ok {tg : Tg} {v : PV} {s s' : S} {u : Unit} (h : asgR tg v s = .ok u s') : asg tg v s = some s' := by
  unfold asgR at h
  cases q : asg tg v s with
  | none => rw [q] at h; cases h
  | some s1 => rw [q] at h; cases h; rfl
theorem body_of (hK : X.K = g.K) {own : List Nat} {tg : Tg} {elt : Ex} (sub : ∀ i, i ∈ tg.slots → i ∈ own) :
    Body g X.K own tg L2.tYes (T g W0 (RlV g) fun s => frzR (ev Γ elt s)) (fun x st => (asgR tg x st).bind fun _ st' => (frzR (ev Γ elt st')).bind fun y st2 => .ok (some y) st2) := by
  intro v x s1 σ1 G H F K1 K2 R hv h
  dsimp only at h
  cases q : asg tg v s1 with
  | none =>
    have e : asgR tg v s1 = .bad := by unfold asgR; rw [q]
    rw [e] at h
    exact h.elim
  | some s2 =>
    have e : asgR tg v s1 = .ok () s2 := by unfold asgR; rw [q]
    rw [e] at h
    refine asg_of hK tg v x s1 s2 σ1 F _ R hv q fun σ2 F2 R2 l2 n2 o2 => ⟨wipe_eq l2 fun j hj => n2 j fun z => hj (sub j z), ?_⟩
    have hw : L2.wipe σ2 own = L2.wipe σ1 own := wipe_eq l2 fun j hj => n2 j fun z => hj (sub j z)
    refine (if_pos (c := (true = true)) (t := T g W0 (RlV g) (fun s => frzR (ev Γ elt s)) σ2 H K1) (e := K2 H) rfl).mpr ⟨G, s2, F2, R2, ?_⟩
    show Post g W0 σ2 G H (Own F2) (RlV g) K1 (frzR (ev Γ elt s2))
    cases hf : frzR (ev Γ elt s2) with
    | bad => simp only [Res.bind, hf] at h
    | exc e3 s3 => simp only [Res.bind, hf] at h
    | ok y s3 =>
      simp only [Res.bind, hf] at h
      intro G' H' F' P z t R' d r
      exact h G' H' F' σ2 z ((t.sup fun a p => o2 a p).sub fun c q => .inr q) R' hw r.2
theorem body_if (hK : X.K = g.K) {own : List Nat} {tg : Tg} {elt : Ex} (sub : ∀ i, i ∈ tg.slots → i ∈ own) :
    Body g X.K own tg (T g W0 RlB (te Γ c)) (T g W0 (RlV g) fun s => frzR (ev Γ elt s)) (fun x st => (asgR tg x st).bind fun _ st' => (te Γ c st').bind fun k st1 =>
      if k then (frzR (ev Γ elt st1)).bind fun y st2 => .ok (some y) st2 else .ok none st1) := by
  intro v x s1 σ1 G H F K1 K2 R hv h
  dsimp only at h
  cases q : asg tg v s1 with
  | none =>
    have e : asgR tg v s1 = .bad := by unfold asgR; rw [q]
    rw [e] at h
    exact h.elim
  | some s2 =>
    have e : asgR tg v s1 = .ok () s2 := by unfold asgR; rw [q]
    rw [e] at h
    refine asg_of hK tg v x s1 s2 σ1 F _ R hv q fun σ2 F2 R2 l2 n2 o2 => ⟨wipe_eq l2 fun j hj => n2 j fun z => hj (sub j z), ?_⟩
    have hw : L2.wipe σ2 own = L2.wipe σ1 own := wipe_eq l2 fun j hj => n2 j fun z => hj (sub j z)
    refine ⟨G, s2, F2, R2, ?_⟩
    cases ht : te Γ c s2 with
    | bad => simp only [Res.bind, ht] at h
    | exc e3 s3 => simp only [Res.bind, ht] at h
    | ok d s3 =>
      simp only [Res.bind, ht] at h
      intro G3 H3 F3 P3 d' t3 R3 _ hd
      cases hd.2
      cases d with
      | false =>
        rw [if_neg Bool.false_ne_true]
        simp only [Bool.false_eq_true, if_false] at h
        exact h G3 H3 F3 σ2 ((t3.sup fun a p => o2 a p).sub fun c q => .inr q) R3 hw
      | true =>
        rw [if_pos rfl]
        simp only [if_true] at h
        refine ⟨G3, s3, F3, R3, ?_⟩
        show Post g W0 σ2 G3 H3 (Own F3) (RlV g) K1 (frzR (ev Γ elt s3))
        cases hf : frzR (ev Γ elt s3) with
        | bad => simp only [hf, Res.bind] at h
        | exc e3 s3 => simp only [hf, Res.bind] at h
        | ok y s4 =>
          simp only [hf, Res.bind] at h
          intro G' H' F' P z t R' d r
          refine h G' H' F' σ2 z ?_ R' hw r.2
          exact ((t3.sup fun a p => o2 a p).sub fun c q => (.inr q : _ ∨ _)).trans (t.sub fun c q => .inr q)
theorem own_snd {scope : Scope} {own : List Nat} (h : blkB N sc scope own = true) : L2.BlkOk (N.map mkS) sc scope (ownP N own) ∧ (ownP N own).map (·.2) = own := by
  unfold blkB at h
  rw [Bool.and_eq_true, decide_eq_true_eq] at h
  exact ⟨L2.blkOk_by h.1, h.2⟩
theorem c_comp (C : Cxt g gn Γ N k sc W X) {elt : Ex} {tg : Tg} {src : Src} {own : List Nat} {it : Expr} {scope : Scope} (hb : blkB N sc scope own = true) (ht : chkT N (L2.relS scope sc) (fncOf scope) tg t = true) (sub : ∀ i, i ∈ tg.slots → i ∈ own)
    (hs : ∀ env x, foldedSetIterable it env x = pure x) (hi : L2.PI X t it (TI g W (srcs Γ src)))
    (he : ∀ {X' : L2.Cx}, Cxt g gn Γ N k (L2.relS scope sc) W0 X' → PE X' l (T g W0 (RlO g) (ev Γ elt))) : PE X (.ListComp l [⟨t, it, [], 0⟩] scope p) (T g W (RlO g) (ev Γ (.comp elt tg src own))) := by
  obtain ⟨ok, eo⟩ := own_snd hb
  have ok : L2.BlkOk X.N X.env.scope scope (ownP N own) := by rw [C.hN, C.hsc]; exact ok
  refine PE_imp (L2.pe_lc C.calm C.nd hi ok (g := gT X.K tg) (fun s H Ca cl fp => ?_) (fun s H Ca cl fp => L2.pts_nil) (fun s H Ca cl fp => PE_frz (he (C.blk s H scope Ca cl fp))) (hs _)) fun σ H Q q => ?_
  · have C' := C.blk s H scope Ca cl fp
    exact pg_ok (fnc := fncOf scope) C'.hN C'.nd C'.calm (fun x h => h) tg t (by rw [C'.hsc]; exact ht)
  · rw [eo]
    exact comp_of (body_of C.hK sub) q
theorem c_compIf (C : Cxt g gn Γ N k sc W X) {elt : Ex} {tg : Tg} {src : Src} {own : List Nat} {it c' : Expr} {scope : Scope} (hb : blkB N sc scope own = true) (ht : chkT N (L2.relS scope sc) (fncOf scope) tg t = true) (sub : ∀ i, i ∈ tg.slots → i ∈ own)
    (hs : ∀ env x, foldedSetIterable it env x = pure x) (hi : L2.PI X t it (TI g W (srcs Γ src)))
    (he : ∀ {X' : L2.Cx}, Cxt g gn Γ N k (L2.relS scope sc) W0 X' → PE X' l (T g W0 (RlO g) (ev Γ elt))) (hc : ∀ {X' : L2.Cx}, Cxt g gn Γ N k (L2.relS scope sc) W0 X' → PT X' c' (T g W0 RlB (te Γ c))) :
    PE X (.ListComp l [⟨t, it, [c'], 0⟩] scope p) (T g W (RlO g) (ev Γ (.compIf elt tg src c own))) := by
  obtain ⟨ok, eo⟩ := own_snd hb
  have ok : L2.BlkOk X.N X.env.scope scope (ownP N own) := by rw [C.hN, C.hsc]; exact ok
  refine PE_imp (L2.pe_lc C.calm C.nd hi ok (g := gT X.K tg) (fun s H Ca cl fp => ?_) (fun s H Ca cl fp => L2.pts_one (hc (C.blk s H scope Ca cl fp))) (fun s H Ca cl fp => PE_frz (he (C.blk s H scope Ca cl fp))) (hs _)) fun σ H Q q => ?_
  · have C' := C.blk s H scope Ca cl fp
    exact pg_ok (fnc := fncOf scope) C'.hN C'.nd C'.calm (fun x h => h) tg t (by rw [C'.hsc]; exact ht)
  · rw [eo]
    exact comp_of (body_if C.hK sub) q
theorem c_int {i : Int} {n : Nat} : PE X (.Constant (.int i) n p) (T g W (RlO g) (ev Γ (.int i))) := PE_imp L2.pe_int fun σ H Q q => by
  obtain ⟨G, s, F, R, p⟩ := q
  exact here_sh R p rep_int
theorem c_bl {i : Bool} {n : Nat} : PE X (.Constant (.bool i) n p) (T g W (RlO g) (ev Γ (.bl i))) := PE_imp L2.pe_bl fun σ H Q q => by
  obtain ⟨G, s, F, R, p⟩ := q
  exact here_sh R p rep_bl
theorem c_non {n : Nat} : PE X (.Constant .none n p) (T g W (RlO g) (ev Γ .non)) := PE_imp L2.pe_non fun σ H Q q => by
  obtain ⟨G, s, F, R, p⟩ := q
  exact here_sh R p (show Rep g G .non .non from rfl)
theorem c_str {n : Nat} {z : Tx} : PE X (.Constant (.str (mkS z)) n p) (T g W (RlO g) (ev Γ (.str z))) := PE_imp L2.pe_str fun σ H Q q => by
  obtain ⟨G, s, F, R, p⟩ := q
  exact here_sh R p (show Rep g G (.str z) (.str (mkS z)) from rfl)
theorem t_int {i : Int} {n : Nat} : PT X (.Constant (.int i) n p) (T g W RlB (te Γ (.int i))) := PT_imp (L2.pt_truth L2.pe_int fun _ => rfl) fun σ H Q q => by
  obtain ⟨G, s, F, R, p⟩ := q
  exact ⟨_, rfl, here_b R p⟩
theorem t_bl {i : Bool} {n : Nat} : PT X (.Constant (.bool i) n p) (T g W RlB (te Γ (.bl i))) := PT_imp (L2.pt_truth L2.pe_bl fun _ => rfl) fun σ H Q q => by
  obtain ⟨G, s, F, R, p⟩ := q
  exact ⟨_, rfl, here_b R p⟩
theorem t_var (C : Cxt g gn Γ N k sc W X) {i : Nat} (h : chk gn N sc (.var i) e = true) : PT X e (T g W RlB (te Γ (.var i))) := by
  obtain ⟨x, p1, rfl, _⟩ := chk_var h
  refine PT_imp (L2.pt_truth (look_name C h) fun _ => rfl) fun σ H Q q => ?_
  obtain ⟨G, s, F, R, p⟩ := q
  have p : Post g W σ G H (Own F) RlB Q ((Res.opt (getV s i) s).bind fun v s' => Res.opt (truth v) s') := p
  cases hv : getV s i with
  | none => rw [hv] at p; exact p.elim
  | some v =>
    rw [hv] at p
    obtain ⟨_, x, ex, pk⟩ := R.look hv
    obtain ⟨q, e2, p⟩ := Post.opt (o := truth v) (s := s) p
    exact ⟨x, ex, q, tru_of C.hK R.sub pk e2, here_b R p⟩
theorem o_no : L2.PO X none (T g W RlI (evO Γ .no)) := ⟨fun pins s σ H Q I q => L2.po_none.run pins s σ H Q I (by
  obtain ⟨G, s, F, R, p⟩ := q
  exact Post.here (b := (none : Option Int)) R p ⟨fun _ z => z, rfl⟩)⟩
theorem o_yes (ha : PE X l (T g W (RlO g) (ev Γ a))) : L2.PO X (some l) (T g W RlI (evO Γ (.yes a))) := ⟨fun pins s σ H Q I q => (L2.po_some (PE_frz ha)).run pins s σ H Q I (by
  obtain ⟨G, s, F, R, p⟩ := q
  have p : Post g W σ G H (Own F) RlI Q ((intR (frzR (ev Γ a s))).bind fun i s' => .ok (some i) s') := p
  have q := P_bind (f := fun s => intR (frzR (ev Γ a s))) (Q2 := fun i H1 => Q (some i) H1) poor_N R p fun i H1 G1 s1 F1 u _ R1 hu p _ => by
    have eu := hu.2
    subst eu
    exact Post.here (b := some u) R1 p ⟨fun _ z => z, rfl⟩
  obtain ⟨G, s, F, R, p⟩ := q
  exact ⟨G, s, F, R, p.intR⟩)⟩
theorem pw_of_pt {op : BoolOp} {ls : List Expr} {t : L2.TT} (h : PT X (.BoolOp op ls p) t) : L2.PW X (.BoolOp op ls p) t := ⟨fun wh pins s σ H Q I q => h.run pins s σ H Q I q⟩
/-- a comparison's comprehension iterable is no set display -/
theorem chkS_noset : ∀ {src : Src}, chkS gn N sc src e t = true → ∀ env x, foldedSetIterable e env x = pure x
  | .seq a, h => noset (a := a) h
  | .rng a, h => by
    obtain ⟨p1, y, p, rfl, _⟩ := chkS_rng h
    intro env x; rfl
  | .rng2 a b, h => by
    obtain ⟨p1, y, z, p, rfl, _⟩ := chkS_rng2 h
    intro env x; rfl
  | .enum a, h => by
    obtain ⟨p1, y, p, rfl, _⟩ := chkS_enum h
    intro env x; rfl
  | .zip a b, h => by
    obtain ⟨p1, y, z, p, rfl, _⟩ := chkS_zip h
    intro env x; rfl
end
section
variable {g : Gm} {gn : GN} {Γ : Env} {N : List Tx} {k : Nat}
mutual
theorem ev_ok : ∀ (m : Ex) {sc : Scope} {W : WX} {X : L2.Cx} {e : Expr}, Cxt g gn Γ N k sc W X → chk gn N sc m e = true → PE X e (T g W (RlO g) (ev Γ m))
  | .int i, sc, W, X, e, C, h => by obtain ⟨n, p, rfl⟩ := chk_int h; exact c_int
  | .bl i, sc, W, X, e, C, h => by obtain ⟨n, p, rfl⟩ := chk_bl h; exact c_bl
  | .non, sc, W, X, e, C, h => by obtain ⟨n, p, rfl⟩ := chk_non h; exact c_non
  | .str t, sc, W, X, e, C, h => by obtain ⟨n, p, rfl⟩ := chk_str h; exact c_str
  | .var i, sc, W, X, e, C, h => c_var C h
  | .glb i, sc, W, X, e, C, h => c_glb C h
  | .tup es, sc, W, X, e, C, h => by
    obtain ⟨l, n, p, rfl, h1, h2⟩ := chk_tup h
    exact c_tup h1 h2 (evs_ok es C h2)
  | .lst es, sc, W, X, e, C, h => by
    obtain ⟨l, p, rfl, h1, h2⟩ := chk_lst h
    exact c_lst h1 h2 (evs_ok es C h2)
  | .bin o a b, sc, W, X, e, C, h => by
    obtain ⟨l, op, r, p, rfl, h1, h2, h3⟩ := chk_bin h
    exact c_bin C h1 h2 h3 (ev_ok a C h2) (ev_ok b C h3)
  | .neg a, sc, W, X, e, C, h => by
    obtain ⟨l, p, rfl, h1⟩ := chk_neg h
    exact c_neg C (ev_ok a C h1)
  | .cmp o a b, sc, W, X, e, C, h => by
    obtain ⟨l, op, r, p, rfl, h1, h2, h3⟩ := chk_cmp h
    exact c_cmp C h1 h2 h3 (ev_ok a C h2) (ev_ok b C h3)
  | .chn o q a b c, sc, W, X, e, C, h => by
    obtain ⟨l, op, op2, m, r, p, rfl, h1, h2, h3, h4, h5⟩ := chk_chn h
    exact c_chn C h1 h2 (ev_ok a C h3) (ev_ok b C h4) (ev_ok c C h5)
  | .isN ng a, sc, W, X, e, C, h => by
    obtain ⟨l, n, p2, p, rfl, h1⟩ := chk_isN h
    exact c_isN C h1 (ev_ok a C h1)
  | .inn ng a b, sc, W, X, e, C, h => by
    obtain ⟨l, r, p, rfl, h1, h2, h3⟩ := chk_inn h
    exact c_inn C h1 h2 h3 (ev_ok a C h2) (ev_ok b C h3)
  | .not a, sc, W, X, e, C, h => by
    obtain ⟨l, p, rfl, h1⟩ := chk_not h
    exact c_not C h1 (ev_ok a C h1)
  | .and a b, sc, W, X, e, C, h => by
    obtain ⟨x, y, r, p, rfl, h1, h2⟩ := chk_and h
    refine c_and C (ev_ok a C h1) ?_
    rcases h2 with ⟨rfl, h2⟩ | ⟨_, h2⟩
    · exact L2.pe_one (ev_ok b C h2)
    · exact ev_ok b C h2
  | .or a b, sc, W, X, e, C, h => by
    obtain ⟨x, y, r, p, rfl, h1, h2⟩ := chk_or h
    refine c_or C (ev_ok a C h1) ?_
    rcases h2 with ⟨rfl, h2⟩ | ⟨_, h2⟩
    · exact L2.pe_one (ev_ok b C h2)
    · exact ev_ok b C h2
  | .ite c a b, sc, W, X, e, C, h => by
    obtain ⟨t, x, y, p, rfl, h1, h2, h3⟩ := chk_ite h
    exact c_ite (te_ok c C h1) (ev_ok a C h2) (ev_ok b C h3)
  | .ix a b, sc, W, X, e, C, h => by
    obtain ⟨x, i, p, rfl, h1, h2⟩ := chk_ix h
    exact c_ix C h1 h2 (ev_ok a C h1) (ev_ok b C h2)
  | .sl a lo hi, sc, W, X, e, C, h => by
    obtain ⟨x, l, u, p2, p, rfl, h1, h2, h3⟩ := chk_sl h
    exact c_sl C h1 (ev_ok a C h1) (evO_ok lo C h2) (evO_ok hi C h3)
  | .rev a, sc, W, X, e, C, h => by
    obtain ⟨x, n, p1, p2, p3, p, rfl, h1⟩ := chk_rev h
    exact c_rev C h1 (ev_ok a C h1)
  | .call f es, sc, W, X, e, C, h => by
    obtain ⟨x, p1, l, p, rfl, h1, h2, h3⟩ := chk_call h
    exact c_call C h1 h2 h3 (evA_ok es _ 0 C h3)
  | .bi b es, sc, W, X, e, C, h => by
    obtain ⟨p1, l, p, rfl, h1, h2⟩ := chk_bi h
    exact c_bi C h1 h2 (evP_ok es C h2)
  | .isi a tys tp, sc, W, X, e, C, h => by
    obtain ⟨p1, y, t, p, rfl, h1, h2, h3⟩ := chk_isi h
    exact c_isi C h1 h2 (ev_ok a C h2) h3
  | .comp elt tg src own, sc, W, X, e, C, h => by
    obtain ⟨x, t, it, scope, p, rfl, h1, h2, h3, h4, h5⟩ := chk_comp h
    exact c_comp C h1 h3 h5 (chkS_noset h4) (srcs_ok src C h4) fun C' => ev_ok elt C' h2
  | .compIf elt tg src c own, sc, W, X, e, C, h => by
    obtain ⟨x, t, it, c', scope, p, rfl, h1, h2, h3, h4, h5, h6⟩ := chk_compIf h
    exact c_compIf C h1 h3 h6 (chkS_noset h4) (srcs_ok src C h4) (fun C' => ev_ok elt C' h2) fun C' => te_ok c C' h5
theorem te_ok : ∀ (m : Ex) {sc : Scope} {W : WX} {X : L2.Cx} {e : Expr}, Cxt g gn Γ N k sc W X → chk gn N sc m e = true → PT X e (T g W RlB (te Γ m))
  | .int i, sc, W, X, e, C, h => by obtain ⟨n, p, rfl⟩ := chk_int h; exact t_int
  | .bl i, sc, W, X, e, C, h => by obtain ⟨n, p, rfl⟩ := chk_bl h; exact t_bl
  | .var i, sc, W, X, e, C, h => t_var C h
  | .cmp o a b, sc, W, X, e, C, h => by
    obtain ⟨l, op, r, p, rfl, h1, h2, h3⟩ := chk_cmp h
    exact t_cmp C h1 h2 h3 (ev_ok a C h2) (ev_ok b C h3)
  | .chn o q a b c, sc, W, X, e, C, h => by
    obtain ⟨l, op, op2, m, r, p, rfl, h1, h2, h3, h4, h5⟩ := chk_chn h
    exact t_chn C h1 h2 (ev_ok a C h3) (ev_ok b C h4) (ev_ok c C h5)
  | .isN ng a, sc, W, X, e, C, h => by
    obtain ⟨l, n, p2, p, rfl, h1⟩ := chk_isN h
    exact t_isN C h1 (ev_ok a C h1)
  | .inn ng a b, sc, W, X, e, C, h => by
    obtain ⟨l, r, p, rfl, h1, h2, h3⟩ := chk_inn h
    exact t_inn C h1 h2 h3 (ev_ok a C h2) (ev_ok b C h3)
  | .not a, sc, W, X, e, C, h => by
    obtain ⟨l, p, rfl, h1⟩ := chk_not h
    exact t_not (te_ok a C h1)
  | .and a b, sc, W, X, e, C, h => by
    obtain ⟨x, y, r, p, rfl, h1, h2⟩ := chk_and h
    refine (t_and (te_ok a C h1) ?_).pt
    rcases h2 with ⟨rfl, h2⟩ | ⟨_, h2⟩
    · exact L2.pw_and1 (te_ok b C h2)
    · exact pw_of_pt (te_ok b C h2)
  | .or a b, sc, W, X, e, C, h => by
    obtain ⟨x, y, r, p, rfl, h1, h2⟩ := chk_or h
    refine (t_or (te_ok a C h1) ?_).pt
    rcases h2 with ⟨rfl, h2⟩ | ⟨_, h2⟩
    · exact L2.pw_or1 (te_ok b C h2)
    · exact pw_of_pt (te_ok b C h2)
  | .ite c a b, sc, W, X, e, C, h => by
    obtain ⟨t, x, y, p, rfl, h1, h2, h3⟩ := chk_ite h
    exact t_ite (te_ok c C h1) (te_ok a C h2) (te_ok b C h3)
  | .ix a b, sc, W, X, e, C, h => by
    obtain ⟨x, i, p, rfl, h1, h2⟩ := chk_ix h
    exact t_ix C h1 h2 (ev_ok a C h1) (ev_ok b C h2)
  | .call f es, sc, W, X, e, C, h => by
    obtain ⟨x, p1, l, p, rfl, h1, h2, h3⟩ := chk_call h
    exact t_call C h1 h2 h3 (evA_ok es _ 0 C h3)
  | .bi b es, sc, W, X, e, C, h => by
    obtain ⟨p1, l, p, rfl, h1, h2⟩ := chk_bi h
    exact t_bi C h1 h2 (evP_ok es C h2)
  | .isi a tys tp, sc, W, X, e, C, h => by
    obtain ⟨p1, y, t, p, rfl, h1, h2, h3⟩ := chk_isi h
    exact t_isi C h1 h2 (ev_ok a C h2) h3
  | .non, sc, W, X, e, C, h => PT_no fun σ H Q ⟨_, _, _, _, p⟩ => p
  | .str _, sc, W, X, e, C, h => PT_no fun σ H Q ⟨_, _, _, _, p⟩ => p
  | .glb _, sc, W, X, e, C, h => PT_no fun σ H Q ⟨_, _, _, _, p⟩ => p
  | .tup _, sc, W, X, e, C, h => PT_no fun σ H Q ⟨_, _, _, _, p⟩ => p
  | .lst _, sc, W, X, e, C, h => PT_no fun σ H Q ⟨_, _, _, _, p⟩ => p
  | .bin _ _ _, sc, W, X, e, C, h => PT_no fun σ H Q ⟨_, _, _, _, p⟩ => p
  | .neg _, sc, W, X, e, C, h => PT_no fun σ H Q ⟨_, _, _, _, p⟩ => p
  | .sl _ _ _, sc, W, X, e, C, h => PT_no fun σ H Q ⟨_, _, _, _, p⟩ => p
  | .rev _, sc, W, X, e, C, h => PT_no fun σ H Q ⟨_, _, _, _, p⟩ => p
  | .comp _ _ _ _, sc, W, X, e, C, h => PT_no fun σ H Q ⟨_, _, _, _, p⟩ => p
  | .compIf _ _ _ _ _, sc, W, X, e, C, h => PT_no fun σ H Q ⟨_, _, _, _, p⟩ => p
theorem evs_ok : ∀ (es : Exs) {sc : Scope} {W : WX} {X : L2.Cx} {ls : List Expr}, Cxt g gn Γ N k sc W X → chks gn N sc es ls = true → PA X ls (T g W (RlVs g) (evs Γ es))
  | .nil, sc, W, X, ls, C, h => by
    cases ls with
    | nil => exact a_nil
    | cons x r => exact ff h
  | .cons a es, sc, W, X, ls, C, h => by
    cases ls with
    | nil => exact ff h
    | cons x r =>
      have h : (chk gn N sc a x && chks gn N sc es r) = true := h
      rw [Bool.and_eq_true] at h
      exact a_cons h.1 (ev_ok a C h.1) (evs_ok es C h.2)
theorem evP_ok : ∀ (es : Exs) {sc : Scope} {W : WX} {X : L2.Cx} {ls : List Expr}, Cxt g gn Γ N k sc W X → chks gn N sc es ls = true → PA X ls (T g W (RlBi g) (evP Γ es))
  | .nil, sc, W, X, ls, C, h => by
    cases ls with
    | nil => exact b_nil
    | cons x r => exact ff h
  | .cons a es, sc, W, X, ls, C, h => by
    cases ls with
    | nil => exact ff h
    | cons x r =>
      have h : (chk gn N sc a x && chks gn N sc es r) = true := h
      rw [Bool.and_eq_true] at h
      have h3 := evs_ok es C h.2
      cases es with
      | nil =>
        cases r with
        | nil => exact b_one C h.1 (ev_ok a C h.1)
        | cons y r => exact ff h.2
      | cons b es => exact b_cons (r := x) h.1 (ev_ok a C h.1) h3
theorem evA_ok : ∀ (es : Exs) (cs : List Nat) (i : Nat) {sc : Scope} {W : WX} {X : L2.Cx} {ls : List Expr}, Cxt g gn Γ N k sc W X → chks gn N sc es ls = true → PA X ls (T g W (RlCs g) (evA Γ cs i es))
  | .nil, cs, i, sc, W, X, ls, C, h => by
    cases ls with
    | nil => exact g_nil
    | cons x r => exact ff h
  | .cons a es, cs, i, sc, W, X, ls, C, h => by
    cases ls with
    | nil => exact ff h
    | cons x r =>
      have h : (chk gn N sc a x && chks gn N sc es r) = true := h
      rw [Bool.and_eq_true] at h
      exact g_cons C h.1 (ev_ok a C h.1) (evA_ok es cs (i + 1) C h.2)
theorem evO_ok : ∀ (o : Opt) {sc : Scope} {W : WX} {X : L2.Cx} {e : Option Expr}, Cxt g gn Γ N k sc W X → chkO gn N sc o e = true → L2.PO X e (T g W RlI (evO Γ o))
  | .no, sc, W, X, e, C, h => by
    cases e with
    | none => exact o_no
    | some x => exact ff h
  | .yes a, sc, W, X, e, C, h => by
    cases e with
    | none => exact ff h
    | some x => exact o_yes (ev_ok a C h)
theorem srcs_ok : ∀ (src : Src) {sc : Scope} {W : WX} {X : L2.Cx} {e t : Expr}, Cxt g gn Γ N k sc W X → chkS gn N sc src e t = true → L2.PI X t e (TI g W (srcs Γ src))
  | .seq a, sc, W, X, e, t, C, h => s_seq C h (ev_ok a C h)
  | .rng a, sc, W, X, e, t, C, h => by
    obtain ⟨p1, y, p, rfl, h1, h2⟩ := chkS_rng h
    exact s_rng C h1 h2 (ev_ok a C h2)
  | .rng2 a b, sc, W, X, e, t, C, h => by
    obtain ⟨p1, y, z, p, rfl, h1, h2, h3⟩ := chkS_rng2 h
    exact s_rng2 C h1 h2 h3 (ev_ok a C h2) (ev_ok b C h3)
  | .enum a, sc, W, X, e, t, C, h => by
    obtain ⟨p1, y, p, rfl, h1, h2, h3⟩ := chkS_enum h
    exact s_enum C h1 h2 (ev_ok a C h2) h3
  | .zip a b, sc, W, X, e, t, C, h => by
    obtain ⟨p1, y, z, p, rfl, h1, h2, h3, h4⟩ := chkS_zip h
    exact s_zip C h1 h2 h3 (ev_ok a C h2) (ev_ok b C h3) h4
end
end
end PF
set_option Elab.async false
set_option linter.all false
set_option maxRecDepth 100000
set_option maxHeartbeats 2000000
/-! PF, part m: readings of statements. -/
namespace PF
open PySem PySem.Spec PyProof.Rows
open L2 (V Hp HO upd upd_same upd_ne Same SqL SqT WX PE PT PA PC PS PSs OpR CallR IxR SlR MtR TruR VK Ends)
/-- the constant slots hold what they held -/
def Keep (cs : List Nat) (σ0 σ1 : L2.St) : Prop := σ1.length = σ0.length ∧ ∀ j, j ∈ cs → σ1[j]? = σ0[j]?
theorem Keep.refl {cs : List Nat} {σ : L2.St} : Keep cs σ σ := ⟨rfl, fun _ _ => rfl⟩
theorem Keep.trans {cs : List Nat} {a b c : L2.St} (h : Keep cs a b) (k : Keep cs b c) : Keep cs a c := ⟨k.1.trans h.1, fun j hj => (k.2 j hj).trans (h.2 j hj)⟩
theorem Keep.set {cs : List Nat} {σ : L2.St} {i : Nat} {x : Option V} (h : i ∉ cs) : Keep cs σ (σ.set i x) := ⟨by simp, fun j hj => by
  rw [List.getElem?_set_ne]
  intro e; subst e; exact h hj⟩
def PostS (g : Gm) (W : WX) (cs : List Nat) (σ : L2.St) (G H : Hp) (A : Fp) (D : Ends) : Res Fl → Prop
  | .ok .nx s => ∀ G' H' σ' F', Keep cs σ σ' → Stp G H A G' H' (Own F') → RS g G' H' s σ' F' → D.nx σ' H'
  | .ok .bk s => ∀ G' H' σ' F', Keep cs σ σ' → Stp G H A G' H' (Own F') → RS g G' H' s σ' F' → D.bk σ' H'
  | .ok .ct s => ∀ G' H' σ' F', Keep cs σ σ' → Stp G H A G' H' (Own F') → RS g G' H' s σ' F' → D.ct σ' H'
  | .ok (.rt o) s => ∀ G' H' σ' F' P x, Keep cs σ σ' → Stp G H A G' H' (fun c => P c ∨ Own F' c) → RS g G' H' s σ' F' → (∀ c, P c → G' c = none ∧ ¬ Own F' c) → OvR g G' H' o (some (some x)) P → D.rt x H'
  | .exc e s => ∀ G' H' σ' F' d, Keep cs σ σ' → Stp G H A G' H' (Own F') → RS g G' H' s σ' F' → XR g G' e d → W (.ref (g.xcl e.c)) (some d) σ' H'
  | .bad => False
def TS (g : Gm) (W : WX) (cs : List Nat) (f : S → Res Fl) : L2.TS := fun D σ H => ∃ G s F, RS g G H s σ F ∧ PostS g W cs σ G H (Own F) D (f s)
section
variable {g : Gm} {gn : GN} {Γ : Env} {N : List Tx} {k : Nat} {sc : Scope} {W : WX} {X : L2.Cx} {σ σ1 : L2.St} {H G H1 G1 : Hp} {A A1 : Fp} {a b c : Ex} {l r t x y e : Expr} {p : Pos} {s : S} {F : Nat → Fp} {cs : List Nat} {D D' : Ends}
theorem PostS.stp {r : Res Fl} (q : Keep cs σ σ1) (t : Stp G H A G1 H1 A1) (h : PostS g W cs σ G H A D r) : PostS g W cs σ1 G1 H1 A1 D r := by
  cases r with
  | ok f s =>
    cases f with
    | nx => exact fun G' H' σ' F' z k => h G' H' σ' F' (q.trans z) (t.trans k)
    | bk => exact fun G' H' σ' F' z k => h G' H' σ' F' (q.trans z) (t.trans k)
    | ct => exact fun G' H' σ' F' z k => h G' H' σ' F' (q.trans z) (t.trans k)
    | rt o => exact fun G' H' σ' F' P x z k => h G' H' σ' F' P x (q.trans z) (t.trans k)
  | exc e s => exact fun G' H' σ' F' d z k => h G' H' σ' F' d (q.trans z) (t.trans k)
  | bad => exact h
theorem PostS.sup {r : Res Fl} (k : ∀ a, A1 a → A a) (h : PostS g W cs σ G H A D r) : PostS g W cs σ G H A1 D r := by
  cases r with
  | ok f s =>
    cases f with
    | nx => exact fun G' H' σ' F' z t => h G' H' σ' F' z (t.sup k)
    | bk => exact fun G' H' σ' F' z t => h G' H' σ' F' z (t.sup k)
    | ct => exact fun G' H' σ' F' z t => h G' H' σ' F' z (t.sup k)
    | rt o => exact fun G' H' σ' F' P x z t => h G' H' σ' F' P x z (t.sup k)
  | exc e s => exact fun G' H' σ' F' d z t => h G' H' σ' F' d z (t.sup k)
  | bad => exact h
/-- fewer constant slots asked for -/
theorem PostS.weak {r : Res Fl} {cs' : List Nat} (k : ∀ j, j ∈ cs → j ∈ cs') (h : PostS g W cs σ G H A D r) : PostS g W cs' σ G H A D r := by
  have z : ∀ {σ'}, Keep cs' σ σ' → Keep cs σ σ' := fun q => ⟨q.1, fun j hj => q.2 j (k j hj)⟩
  cases r with
  | ok f s =>
    cases f with
    | nx => exact fun G' H' σ' F' q => h G' H' σ' F' (z q)
    | bk => exact fun G' H' σ' F' q => h G' H' σ' F' (z q)
    | ct => exact fun G' H' σ' F' q => h G' H' σ' F' (z q)
    | rt o => exact fun G' H' σ' F' P x q => h G' H' σ' F' P x (z q)
  | exc e s => exact fun G' H' σ' F' d q => h G' H' σ' F' d (z q)
  | bad => exact h
/-- a value, then what is done with it -/
theorem S_bind {α β : Type} {f : S → Res α} {Rl : RL α β} {kk : α → S → Res Fl} {Q2 : β → Hp → Prop} (R : RS g G H s σ F) (p : PostS g W cs σ G H (Own F) D ((f s).bind kk))
    (h : ∀ y H2 G1 s1 F1 w P, Stp G H (Own F) G1 H2 (fun c => P c ∨ Own F1 c) → RS g G1 H2 s1 σ F1 → (∀ c, P c → G1 c = none ∧ ¬ Own F1 c) → Rl σ s1 G1 H2 w y P → PostS g W cs σ G1 H2 (fun c => P c ∨ Own F1 c) D (kk w s1) → Q2 y H2) : T g W Rl f σ H Q2 := by
  refine ⟨G, s, F, R, ?_⟩
  cases hf : f s with
  | bad => rw [hf] at p; exact p
  | exc e s1 =>
    rw [hf] at p
    exact fun G' H' F' d t R' x => p G' H' σ F' d Keep.refl t R' x
  | ok a s1 =>
    rw [hf] at p
    exact fun G' H' F' P b t R1 d q => h b H' G' s1 F' a P t R1 d q ((p : PostS g W cs σ G H (Own F) D (kk a s1)).stp Keep.refl t)
theorem S_bind0 {α β : Type} {f : S → Res α} {Rl : RL α β} {kk : α → S → Res Fl} {Q2 : β → Hp → Prop} (n : Poor Rl) (R : RS g G H s σ F) (p : PostS g W cs σ G H (Own F) D ((f s).bind kk))
    (h : ∀ y H2 G1 s1 F1 w, Stp G H (Own F) G1 H2 (Own F1) → RS g G1 H2 s1 σ F1 → Rl σ s1 G1 H2 w y none_ → PostS g W cs σ G1 H2 (Own F1) D (kk w s1) → Q2 y H2) : T g W Rl f σ H Q2 :=
  S_bind R p fun y H2 G1 s1 F1 w P t R1 d q p => by
    have e := poor_none (n _ _ _ _ _ _ _ q)
    subst e
    exact h y H2 G1 s1 F1 w (t.sub fun _ z => .inr z) R1 q (p.sup fun _ z => .inr z)
theorem PS_imp {st : Stmt} {t t' : L2.TS} (h : PS X st t) (k : ∀ D σ H, t' D σ H → t D σ H) : PS X st t' := ⟨fun pins s σ H D I q => h.run pins s σ H D I (k _ _ _ q)⟩
theorem PSs_imp {st : List Stmt} {t t' : L2.TS} (h : PSs X st t) (k : ∀ D σ H, t' D σ H → t D σ H) : PSs X st t' := ⟨fun pins s σ H D I q => h.run pins s σ H D I (k _ _ _ q)⟩
theorem PS_no {st : Stmt} {t : L2.TS} (h : ∀ D σ H, ¬ t D σ H) : PS X st t := ⟨fun pins s σ H D I q => (h _ _ _ q).elim⟩
theorem nx_here (R : RS g G H s σ F) (p : PostS g W cs σ G H (Own F) D (.ok .nx s)) : D.nx σ H := p G H σ F Keep.refl (Stp.refl) R
theorem swaps_no {o : Option Expr} {n : Nat} {env : PySem.Env} (h : isComp e = false) : swapsWith e o n env = pure false := by
  cases e <;> first | rfl | cases h
/-! ### small statements -/
theorem s_expr {p : Pos} (hn : isComp x = false) (hx : PE X x (T g W (RlO g) (ev Γ a))) : PS X (.Expr x p) (TS g W cs (ex Γ cs (.expr a))) := by
  refine PS_imp (L2.ps_expr (PE_frz hx) (swaps_no hn)) fun D σ H q => ?_
  obtain ⟨G, s, F, R, p⟩ := q
  have p : PostS g W cs σ G H (Own F) D ((frzR (ev Γ a s)).bind fun _ s' => .ok .nx s') := p
  exact S_bind0 (f := fun s => frzR (ev Γ a s)) poor_V R p fun y H2 G1 s1 F1 w t R1 q p => nx_here R1 p
theorem s_ret {p : Pos} (hx : PE X x (T g W (RlO g) (ev Γ a))) : PS X (.Return (some x) p) (TS g W cs (ex Γ cs (.ret a))) := by
  refine PS_imp (L2.ps_ret hx) fun D σ H q => ?_
  obtain ⟨G, s, F, R, p⟩ := q
  have p : PostS g W cs σ G H (Own F) D ((ev Γ a s).bind fun o s' => .ok (.rt o) s') := p
  exact S_bind (f := ev Γ a) R p fun y H2 G1 s1 F1 w P t R1 d q p => p G1 H2 σ F1 P y Keep.refl Stp.refl R1 d q
theorem s_retN {p : Pos} : PS X (.Return none p) (TS g W cs (ex Γ cs .retN)) := PS_imp L2.ps_retN fun D σ H q => by
  obtain ⟨G, s, F, R, p⟩ := q
  exact p G H σ F none_ .non Keep.refl (Stp.refl.sub fun c z => z.elim (fun z => z.elim) id) R (fun _ z => z.elim) ⟨fun _ z => z, .non, rfl, rfl⟩
theorem s_pass {p : Pos} : PS X (.Pass p) (TS g W cs (ex Γ cs .pass)) := PS_imp L2.ps_pass fun D σ H q => by
  obtain ⟨G, s, F, R, p⟩ := q
  exact nx_here R p
theorem s_brk {p : Pos} : PS X (.Break p) (TS g W cs (ex Γ cs .brk)) := PS_imp L2.ps_break fun D σ H q => by
  obtain ⟨G, s, F, R, p⟩ := q
  exact p G H σ F Keep.refl Stp.refl R
theorem s_cont {p : Pos} : PS X (.Continue p) (TS g W cs (ex Γ cs .cont)) := PS_imp L2.ps_continue fun D σ H q => by
  obtain ⟨G, s, F, R, p⟩ := q
  exact p G H σ F Keep.refl Stp.refl R
/-- a slot is stored -/
theorem put_slot {i : Nat} {o : OV} {v : V} {P : Fp} (R : RS g G H s σ F) (d : ∀ c, P c → G c = none ∧ ¬ Own F c) (h : OvR g G H o (some (some v)) P) (hi : i < s.length) :
    RS g G H (s.set i o) (σ.set i (some v)) (updF F i P) ∧ ∀ a, Own (updF F i P) a → P a ∨ Own F a := by
  have hj : i < σ.length := by rw [← R.len]; exact hi
  refine ⟨R.put hi (by simp [hj]; exact h) (by simp) (fun j hne => by simp [List.getElem?_set_ne (Ne.symm hne)]) fun a pa => ⟨(d a pa).1, fun j _ z => (d a pa).2 ⟨j, z⟩⟩, fun a z => ?_⟩
  rcases own_updF z with z | ⟨j, _, z⟩
  · exact .inl z
  · exact .inr ⟨j, z⟩
theorem set_nx {i : Nat} {o : OV} {v : V} {P : Fp} (R : RS g G H s σ F) (d : ∀ c, P c → G c = none ∧ ¬ Own F c) (h : OvR g G H o (some (some v)) P) (p : PostS g W cs σ G H (fun c => P c ∨ Own F c) D (setV cs i o s)) : D.nx (σ.set i (some v)) H := by
  have p : PostS g W cs σ G H (fun c => P c ∨ Own F c) D (if (decide (i < s.length) && !cs.contains i) = true then .ok .nx (s.set i o) else .bad) := p
  cases hc : (decide (i < s.length) && !cs.contains i) with
  | false => rw [hc] at p; exact p.elim
  | true =>
    rw [hc] at p
    rw [Bool.and_eq_true, decide_eq_true_eq] at hc
    obtain ⟨R2, o2⟩ := put_slot R d h hc.1
    have hn : i ∉ cs := by simpa using hc.2
    exact p G H _ _ (Keep.set hn) (Stp.refl.sub fun a z => o2 a z) R2
end
end PF
set_option Elab.async false
set_option linter.all false
set_option maxRecDepth 100000
set_option maxHeartbeats 2000000
/-! PF, part n: stores. -/
namespace PF
open PySem PySem.Spec PyProof.Rows
open L2 (V Hp HO upd upd_same upd_ne Same SqL SqT WX PE PT PA PC PS PSs OpR CallR IxR SlR MtR TruR VK Ends)
structure CxF (g : Gm) (gn : GN) (Γ : Env) (N : List Tx) (k : Nat) (sc : Scope) (W : WX) (X : L2.Cx) : Prop where
  C : Cxt g gn Γ N k sc W X
  po : PassesOwn (model X.prog X.w) X.A X.env X.xe
  fnT : ∀ x, X.fn x = true
section
variable {g : Gm} {gn : GN} {Γ : Env} {N : List Tx} {k : Nat} {sc : Scope} {W : WX} {X : L2.Cx} {σ σ1 : L2.St} {H G H1 G1 : Hp} {A A1 : Fp} {a b c : Ex} {l r t x y e : Expr} {p : Pos} {s : S} {F : Nat → Fp} {cs : List Nat} {D D' : Ends}
theorem isNmL_ok {i : Nat} (h : isNmL N sc i e = true) : ∃ x p, e = .Name x p ∧ isNm N i x = true ∧ L2.Loc sc x := by
  cases e <;> first | exact ff h | skip
  rename_i x p
  have h : (isNm N i x && locB sc (fun _ => true) x) = true := h
  rw [Bool.and_eq_true] at h
  exact ⟨x, p, rfl, h.1, (locB_ok h.2).1⟩
theorem set_of {i : Nat} (q : TS g W cs (ex Γ cs (.set (.v i) a)) D σ H) : T g W (RlO g) (ev Γ a) σ H fun x H1 => L2.gName i x σ H1 D.nx := by
  obtain ⟨G, s, F, R, p⟩ := q
  have p : PostS g W cs σ G H (Own F) D ((ev Γ a s).bind fun o s' => setV cs i o s') := p
  exact S_bind (f := ev Γ a) R p fun y H2 G1 s1 F1 w P t R1 d q p => set_nx R1 d q p
theorem sw_eq {elt : Expr} {gs : List Comprehension} {scope : Scope} {pos py : Pos} {y : Str} {n : Nat} {env : PySem.Env} (hk : env.scope.kind = .function) (hs : env.scope = sc) :
    swapsWith (.ListComp elt gs scope pos) (some (.Name y py)) n env = pure (swB sc y py (.ListComp elt gs scope pos)) := by
  subst hs
  have hb : env.blockKind = .function := by unfold Env.blockKind; rw [hk]; rfl
  unfold swapsWith
  have e0 : (ScopeKind.function == ScopeKind.function) = true := rfl
  simp only [hb, Expr.pos, e0, Bool.true_and]
  rfl
theorem s_setPlain (C : CxF g gn Γ N k sc W X) {i : Nat} {x : Str} {px : Pos} (hi : isNm N i x = true) (hx : L2.Loc sc x) (hs : ∀ n, X.env.scope.kind = .function → swapsWith y (some (.Name x px)) n X.env = pure false) (hy : PE X y (T g W (RlO g) (ev Γ a))) :
    PS X (.Assign [.Name x px] y p) (TS g W cs (ex Γ cs (.set (.v i) a))) := by
  refine ⟨fun pins s σ H D I q => ?_⟩
  exact (L2.ps_set (i := i) (pos := p) C.C.nd (by rw [C.C.hN]; exact isNm_ok hi) (by rw [C.C.hsc]; exact hx) hy (hs _ I.ok.kind) (.inl (C.fnT x))).run pins s σ H D I (set_of q)
/-- a comprehension that is stored on its line -/
theorem s_setLc (C : CxF g gn Γ N k sc W X) {i : Nat} {y : Str} {py : Pos} {elt : Ex} {tg : Tg} {src : Src} {own : List Nat} {it : Expr} {scope : Scope} {p2 : Pos} (hi : isNm N i y = true) (hsw : swB sc y py (.ListComp l [⟨t, it, [], 0⟩] scope p2) = true) (hx : sc.names.lookup y = some .local)
    (hb : blkB N sc scope own = true) (ht : chkT N (L2.relS scope sc) (fncOf scope) tg t = true) (sub : ∀ i, i ∈ tg.slots → i ∈ own)
    (hs : ∀ env x, foldedSetIterable it env x = pure x) (hsrc : L2.PI X t it (TI g W (srcs Γ src)))
    (he : ∀ {X' : L2.Cx}, Cxt g gn Γ N k (L2.relS scope sc) W0 X' → PE X' l (T g W0 (RlO g) (ev Γ elt))) : PS X (.Assign [.Name y py] (.ListComp l [⟨t, it, [], 0⟩] scope p2) p) (TS g W cs (ex Γ cs (.set (.v i) (.comp elt tg src own)))) := by
  have C0 := C.C
  obtain ⟨ok, eo⟩ := own_snd hb
  have ok : L2.BlkOk X.N X.env.scope scope (ownP N own) := by rw [C0.hN, C0.hsc]; exact ok
  refine ⟨fun pins s σ H D I q => ?_⟩
  refine (L2.ps_setLc (i := i) (spos := p) C0.calm C0.nd (by rw [C0.hN]; exact isNm_ok hi) (by rw [C0.hsc]; exact hx) (by rw [sw_eq I.ok.kind C0.hsc, hsw]) hsrc ok (g := gT X.K tg) (fun s H Ca cl fp => ?_) (fun s H Ca cl fp => L2.pts_nil) (fun s H Ca cl fp => PE_frz (he (C0.blk s H scope Ca cl fp))) (hs _)).run pins s σ H D I ?_
  · have C' := C0.blk s H scope Ca cl fp
    exact pg_ok (fnc := fncOf scope) C'.hN C'.nd C'.calm (fun x h => h) tg t (by rw [C'.hsc]; exact ht)
  · rw [eo]
    exact comp_of (body_of C0.hK sub) (set_of q)
theorem s_setLcIf (C : CxF g gn Γ N k sc W X) {i : Nat} {y : Str} {py : Pos} {elt : Ex} {tg : Tg} {src : Src} {own : List Nat} {it c' : Expr} {scope : Scope} {p2 : Pos} (hi : isNm N i y = true) (hsw : swB sc y py (.ListComp l [⟨t, it, [c'], 0⟩] scope p2) = true) (hx : sc.names.lookup y = some .local)
    (hb : blkB N sc scope own = true) (ht : chkT N (L2.relS scope sc) (fncOf scope) tg t = true) (sub : ∀ i, i ∈ tg.slots → i ∈ own)
    (hs : ∀ env x, foldedSetIterable it env x = pure x) (hsrc : L2.PI X t it (TI g W (srcs Γ src)))
    (he : ∀ {X' : L2.Cx}, Cxt g gn Γ N k (L2.relS scope sc) W0 X' → PE X' l (T g W0 (RlO g) (ev Γ elt))) (hc : ∀ {X' : L2.Cx}, Cxt g gn Γ N k (L2.relS scope sc) W0 X' → PT X' c' (T g W0 RlB (te Γ c))) :
    PS X (.Assign [.Name y py] (.ListComp l [⟨t, it, [c'], 0⟩] scope p2) p) (TS g W cs (ex Γ cs (.set (.v i) (.compIf elt tg src c own)))) := by
  have C0 := C.C
  obtain ⟨ok, eo⟩ := own_snd hb
  have ok : L2.BlkOk X.N X.env.scope scope (ownP N own) := by rw [C0.hN, C0.hsc]; exact ok
  refine ⟨fun pins s σ H D I q => ?_⟩
  refine (L2.ps_setLc (i := i) (spos := p) C0.calm C0.nd (by rw [C0.hN]; exact isNm_ok hi) (by rw [C0.hsc]; exact hx) (by rw [sw_eq I.ok.kind C0.hsc, hsw]) hsrc ok (g := gT X.K tg) (fun s H Ca cl fp => ?_) (fun s H Ca cl fp => L2.pts_one (hc (C0.blk s H scope Ca cl fp))) (fun s H Ca cl fp => PE_frz (he (C0.blk s H scope Ca cl fp))) (hs _)).run pins s σ H D I ?_
  · have C' := C0.blk s H scope Ca cl fp
    exact pg_ok (fnc := fncOf scope) C'.hN C'.nd C'.calm (fun x h => h) tg t (by rw [C'.hsc]; exact ht)
  · rw [eo]
    exact comp_of (body_if C0.hK sub) (set_of q)
theorem lc_line {x : Str} {px : Pos} {elt : Expr} {gs : List Comprehension} {scope : Scope} {pos : Pos} (h : swB sc x px (.ListComp elt gs scope pos) = true) : sc.names.lookup x = some .local := by
  have h : ((sc.names.lookup x == some .local) && (px.line == pos.line) && !(scope.names.any fun y => y.1 == x && (y.2 == .local || y.2 == .cell))) = true := h
  rw [Bool.and_eq_true, Bool.and_eq_true] at h
  exact beq_iff_eq.mp h.1.1
/-- name = e, whatever e -/
theorem s_setV (C : CxF g gn Γ N k sc W X) {i : Nat} {x : Str} {px : Pos} (hi : isNm N i x = true) (hx : L2.Loc sc x) (hl : lone y = true) (cy : chk gn N sc a y = true) : PS X (.Assign [.Name x px] y p) (TS g W cs (ex Γ cs (.set (.v i) a))) := by
  have hy := ev_ok a C.C cy
  by_cases hc : ∃ elt gs scope pos, y = .ListComp elt gs scope pos
  · obtain ⟨elt, gs, scope, pos, rfl⟩ := hc
    cases hb : swB sc x px (.ListComp elt gs scope pos) with
    | false => exact s_setPlain C hi hx (fun n hk => by rw [sw_eq hk C.C.hsc, hb]) hy
    | true =>
      have hloc := lc_line hb
      cases a with
      | comp m tg src own =>
        obtain ⟨z, t, it, sc2, p2, e1, h1, h2, h3, h4, h5⟩ := chk_comp cy
        cases e1
        exact s_setLc C hi hb hloc h1 h3 h5 (chkS_noset h4) (srcs_ok src C.C h4) fun C' => ev_ok m C' h2
      | compIf m tg src c own =>
        obtain ⟨z, t, it, c', sc2, p2, e1, h1, h2, h3, h4, h5, h6⟩ := chk_compIf cy
        cases e1
        exact s_setLcIf C hi hb hloc h1 h3 h6 (chkS_noset h4) (srcs_ok src C.C h4) (fun C' => ev_ok m C' h2) fun C' => te_ok c C' h5
      | _ => exact ff cy
  · have hn : isComp y = false := by
      cases y <;> first | rfl | exact absurd ⟨_, _, _, _, rfl⟩ hc | exact ff hl
    exact s_setPlain C hi hx (fun n hk => swaps_no hn) hy
theorem swapped_no {tg : Expr} {env : PySem.Env} (h : notTup y = true) : swappedStores [tg] y env = pure none := by
  cases y <;> first | exact ff h | (cases tg <;> rfl)
theorem swaps_tup {es : List Expr} {n m : Nat} {pt : Pos} {env : PySem.Env} (h : lone y = true) (hn : isComp y = false ∨ ∃ elt gs scope pos, y = .ListComp elt gs scope pos) : swapsWith y (some (.Tuple es n pt)) m env = pure false := by
  rcases hn with hn | ⟨elt, gs, scope, pos, rfl⟩
  · exact swaps_no hn
  · rfl
/-- a, b = e -/
theorem s_setT (C : CxF g gn Γ N k sc W X) {ts : Tgs} (hn : notTup y = true) (hl : lone y = true) (ht : chkT N sc (fun _ => true) (.t ts) t = true) (hy : PE X y (T g W (RlO g) (ev Γ a))) :
    PS X (.Assign [t] y p) (TS g W cs (ex Γ cs (.set (.t ts) a))) := by
  have C0 := C.C
  have ht0 := ht
  cases t <;> first | exact ff ht | skip
  rename_i es n pt
  have hsw : swapsWith y (some (.Tuple es n pt)) p.line X.env = pure false := by
    refine swaps_tup (m := p.line) hl ?_
    cases y <;> first | exact .inl rfl | exact .inr ⟨_, _, _, _, rfl⟩ | exact ff hl
  refine PS_imp (L2.ps_asg (PE_frz hy) (pg_ok (fnc := fun _ => true) C0.hN C0.nd C0.calm (fun x _ => C.fnT x) (.t ts) _ (by rw [C0.hsc]; exact ht0)) hsw (swapped_no hn) rfl) fun D σ H q => ?_
  obtain ⟨G, s, F, R, p⟩ := q
  have p : PostS g W cs σ G H (Own F) D ((frzR (ev Γ a s)).bind fun v s' => asgF cs (.t ts) v s') := p
  refine S_bind0 (f := fun s => frzR (ev Γ a s)) poor_V R p fun y H2 G1 s1 F1 w t R1 q p => ?_
  have p : PostS g W cs σ G1 H2 (Own F1) D (if (Tg.t ts).slots.all (fun i => !cs.contains i) = true then (asgR (.t ts) w s1).bind fun _ s' => .ok .nx s' else .bad) := p
  cases hc : (Tg.t ts).slots.all (fun i => !cs.contains i) with
  | false => rw [hc] at p; exact p.elim
  | true =>
    rw [hc, if_pos rfl] at p
    cases ha : asg (.t ts) w s1 with
    | none =>
      have e : asgR (.t ts) w s1 = .bad := by unfold asgR; rw [ha]
      rw [e] at p; exact p.elim
    | some s2 =>
      have e : asgR (.t ts) w s1 = .ok () s2 := by unfold asgR; rw [ha]
      rw [e] at p
      refine asg_of C0.hK (.t ts) w y s1 s2 σ F1 _ R1 q.2 ha fun σ2 F2 R2 l2 n2 o2 => ?_
      refine p G1 H2 σ2 F2 ⟨l2, fun j hj => n2 j fun z => ?_⟩ (Stp.refl.sub fun a z => o2 a z) R2
      have := List.all_eq_true.mp hc j z
      simp at this
      exact this hj
theorem s_set (C : CxF g gn Γ N k sc W X) {tg : Tg} (hn : notTup y = true) (hl : lone y = true) (ht : chkT N sc (fun _ => true) tg t = true) (cy : chk gn N sc a y = true) : PS X (.Assign [t] y p) (TS g W cs (ex Γ cs (.set tg a))) := by
  cases tg with
  | v i =>
    cases t <;> first | exact ff ht | skip
    rename_i x px
    have h : (isNm N i x && locB sc (fun _ => true) x) = true := ht
    rw [Bool.and_eq_true] at h
    exact s_setV C h.1 (locB_ok h.2).1 hl cy
  | t ts => exact s_setT C hn hl ht (ev_ok a C.C cy)
/-- an own object is written where it stands -/
theorem put_own {i : Nat} {b : Addr} {u : HO} {o : OV} (R : RS g G H s σ F) (hi : i < s.length) (ew : σ[i]? = some (some (.ref b))) (ep : ∀ c, F i c ↔ c = b) (h : OvR g G (upd H b u) o σ[i]? (F i)) :
    RS g G (upd H b u) (s.set i o) σ F ∧ Stp G H (Own F) G (upd H b u) (Own F) := by
  have hb : F i b := (ep b).mpr rfl
  have hG : G b = none := R.fr i b hb
  refine ⟨⟨by rw [List.length_set]; exact R.len, fun j hj => ?_, R.dis, R.fr, fun j a z => by rw [List.length_set]; exact R.out j a z, fun a v e => by rw [upd_ne (L2.ne_of_none e hG)]; exact R.sub a v e⟩, Same.refl _, fun a v e n => by rw [upd_ne (fun z => n (by rw [z]; exact ⟨i, hb⟩))]; exact e, fun a v e z => (by rw [z] at e; cases e), fun a z => .inl z⟩
  rw [List.length_set] at hj
  rw [getO_set hi]
  by_cases e : j = i
  · subst e; rw [if_pos rfl]; exact h
  · rw [if_neg e]
    refine (R.at_ j hj).frame (Same.refl _) fun a v z ha => ?_
    rw [upd_ne (fun q => e (R.dis j i a z (by rw [q]; exact hb)))]
    exact ha
/-! ### xs.append(e) -/
theorem few_one {cp : Pos} {env : PySem.Env} (h : ∀ a b, y ≠ .Starred a b) : ((backTo cp (starEach [y] env)).all (fun x => !x.1) && (backToKw cp (keywordEach [] env)).all (fun x => x.1.isSome) && decide (([y] : List Expr).length + ([] : List Keyword).length + (if ([] : List Keyword).isEmpty then 0 else 1) < 30)) = true := by
  rw [star_one h]; rfl
theorem s_app (C : CxF g gn Γ N k sc W X) {i : Nat} {ap cp : Pos} (hline : (ap.endLine == cp.line) = true) (cx : chk gn N sc (.var i) x = true) (cy : chk gn N sc a y = true) (hy : PE X y (T g W (RlO g) (ev Γ a))) :
    PS X (.Expr (.Call (.Attribute x "append" ap) [y] [] cp) p) (TS g W cs (ex Γ cs (.app i a))) := by
  have hbase : attributeBase x "append" X.env (eval x X.env) = eval x X.env := by
    obtain ⟨z, pz, rfl, _⟩ := chk_var cx
    rfl
  refine PS_imp (L2.ps_expr (L2.pe_bm PySem.F.plainAttrs_list PySem.F.slot_list_append PySem.F.type_list_append L2.mt_append (look_name C.C cx) (L2.pa_cons (PE_frz hy) L2.pa_nil (star_one (chk_plain cy).1)) hbase (few_one (chk_plain cy).1) hline (star_one (chk_plain cy).1) rfl)) fun D σ H q => ?_
  obtain ⟨G, s, F, R, p⟩ := q
  have p : PostS g W cs σ G H (Own F) D (match getO s i with
    | .lst _ => (frzR (ev Γ a s)).bind fun v s' => appR i v s'
    | _ => .bad) := p
  cases hg : getO s i with
  | emp => rw [hg] at p; exact p.elim
  | sh v => rw [hg] at p; exact p.elim
  | obj c v => rw [hg] at p; exact p.elim
  | lst xs =>
    rw [hg] at p
    have p : PostS g W cs σ G H (Own F) D ((frzR (ev Γ a s)).bind fun v s' => appR i v s') := p
    have hi : i < s.length := by
      refine Classical.byContradiction fun h => ?_
      rw [getO_out (Nat.le_of_not_lt h)] at hg; cases hg
    have hat := R.at_ i hi
    rw [hg] at hat
    obtain ⟨b, vs, ew, _, h1, _⟩ := hat
    refine ⟨.ref b, ew, .inl ⟨rfl, vs, .inl (.inl h1)⟩, S_bind0 (f := fun s => frzR (ev Γ a s)) poor_V R p fun v H2 G1 s1 F1 w t R1 q p => ?_⟩
    have p : PostS g W cs σ G1 H2 (Own F1) D (match getO s1 i with
      | .lst xs => if xs.length < big then .ok .nx (s1.set i (.lst (xs ++ [w]))) else .bad
      | _ => .bad) := p
    cases hg1 : getO s1 i with
    | emp => rw [hg1] at p; exact p.elim
    | sh v => rw [hg1] at p; exact p.elim
    | obj c v => rw [hg1] at p; exact p.elim
    | lst ys =>
      rw [hg1] at p
      have p : PostS g W cs σ G1 H2 (Own F1) D (if ys.length < big then .ok .nx (s1.set i (.lst (ys ++ [w]))) else .bad) := p
      split at p
      · rename_i hbig
        have hi1 : i < s1.length := by rw [R1.len, ← R.len]; exact hi
        have hat1 := R1.at_ i hi1
        rw [hg1] at hat1
        obtain ⟨b1, ws, ew1, ep, h2, r2⟩ := hat1
        rw [ew] at ew1; cases ew1
        refine ⟨b, ws, v, rfl, rfl, h2, by rw [← r2.length, ← big_eq]; exact hbig, ?_⟩
        obtain ⟨R2, o2⟩ := put_own R1 hi1 ew ep (u := .lst (ws ++ [v])) (o := .lst (ys ++ [w])) ⟨b, ws ++ [v], ew, ep, upd_same, r2.append (Reps.cons q.2 Reps.nil)⟩
        exact p G1 _ σ F1 Keep.refl o2 R2
      · exact p.elim
end
end PF
set_option Elab.async false
set_option linter.all false
set_option maxRecDepth 100000
set_option maxHeartbeats 2000000
/-! PF, part o: more stores. -/
namespace PF
open PySem PySem.Spec PyProof.Rows
open L2 (V Hp HO upd upd_same upd_ne Same SqL SqT WX PE PT PA PC PS PSs OpR CallR IxR SlR MtR TruR VK Ends)
section
variable {g : Gm} {gn : GN} {Γ : Env} {N : List Tx} {k : Nat} {sc : Scope} {W : WX} {X : L2.Cx} {σ σ1 : L2.St} {H G H1 G1 : Hp} {A A1 : Fp} {a b c : Ex} {l r t x y e : Expr} {p : Pos} {s : S} {F : Nat → Fp} {cs : List Nat} {D D' : Ends}
theorem PostS.intR {r : Res PV} {kk : Int → S → Res Fl} (h : PostS g W cs σ G H A D ((intR r).bind kk)) : PostS g W cs σ G H A D (r.bind fun v s => match v with
    | .int i => kk i s
    | _ => .bad) := by
  cases r with
  | ok v s1 => cases v <;> exact h
  | exc e s => exact h
  | bad => exact h
/-- an int, then what is done with it -/
theorem S_int {f : S → Res PV} {kk : Int → S → Res Fl} {Q2 : VK} (R : RS g G H s σ F) (p : PostS g W cs σ G H (Own F) D ((intR (f s)).bind kk))
    (h : ∀ i H2 G1 s1 F1, Stp G H (Own F) G1 H2 (Own F1) → RS g G1 H2 s1 σ F1 → PostS g W cs σ G1 H2 (Own F1) D (kk i s1) → Q2 (.int i) H2) : T g W (RlV g) f σ H Q2 := by
  refine S_bind0 (f := f) poor_V R (PostS.intR p) fun y H2 G1 s1 F1 w t R1 q p => ?_
  cases w with
  | int i =>
    cases (show y = .int i from q.2)
    exact h i H2 G1 s1 F1 t R1 p
  | _ => exact (show False from p).elim
/-! ### xs[k] = e -/
theorem notSlice (h : notSub x = true) : ∀ a b c d, x ≠ .Slice a b c d := by
  intro a b c d e
  subst e; exact ff h
theorem assign_sub {o i : Expr} {pos : Pos} {env : PySem.Env} (h : notSub i = true) (v : Value) : assign (.Subscript o i pos) env v = (do
      let ov ← holding [v] (eval o env)
      let iv ← holding [v, ov] (eval i env)
      standAt pos
      holding [v, ov, iv] (setItem ov iv v)
      release [v, ov, iv] []) := by
  cases i <;> first | rfl | exact ff h
/-- the list at a slot is written -/
theorem at_lst {i : Nat} {xs : List PV} (R : RS g G H s σ F) (hg : getO s i = .lst xs) : i < s.length ∧ ∃ b vs, σ[i]? = some (some (.ref b)) ∧ (∀ c, F i c ↔ c = b) ∧ H b = some (.lst vs) ∧ Reps g G xs vs := by
  have hi : i < s.length := by
    refine Classical.byContradiction fun h => ?_
    rw [getO_out (Nat.le_of_not_lt h)] at hg; cases hg
  have hat := R.at_ i hi
  rw [hg] at hat
  obtain ⟨b, vs, ew, ep, h1, r⟩ := hat
  exact ⟨hi, b, vs, ew, ep, h1, r⟩
theorem setIx_ok {i : Nat} {j w : PV} {z u : V} {b : Addr} (R : RS g G H s σ F) (ew : σ[i]? = some (some (.ref b))) (hj : Rep g G j z) (hw : Rep g G w u) (p : PostS g W cs σ G H (Own F) D (setIxR i j w s)) : L2.rSetL (.ref b) z u H fun H3 => D.nx σ H3 := by
  unfold setIxR at p
  cases hg : getO s i with
  | emp => rw [hg] at p; exact p.elim
  | sh v => rw [hg] at p; exact p.elim
  | obj c v => rw [hg] at p; exact p.elim
  | lst ys =>
    cases j with
    | int k =>
      cases (show z = .int k from hj)
      simp only [hg] at p
      obtain ⟨hi, b1, ws, ew1, ep, h2, r2⟩ := at_lst R hg
      rw [ew] at ew1; cases ew1
      cases hx : ixN ys.length k with
      | none => rw [hx] at p; exact p.elim
      | some j =>
        rw [hx] at p
        refine ⟨b, ws, k, j, rfl, rfl, h2, ?_, ?_⟩
        · have e : L2.ixN ws.length k = ixN ws.length k := rfl
          rw [e, ← r2.length]; exact hx
        · obtain ⟨R2, o2⟩ := put_own R hi ew ep (u := .lst (ws.set j u)) (o := .lst (ys.set j w)) ⟨b, ws.set j u, ew, ep, upd_same, r2.set hw j⟩
          exact p G _ σ F Keep.refl o2 R2
    | _ => rw [hg] at p; exact p.elim
theorem s_setIx (C : CxF g gn Γ N k sc W X) {i : Nat} {p2 : Pos} (hs : notSub t = true) (hn : isComp y = false) (cx : chk gn N sc (.var i) x = true) (ht : PE X t (T g W (RlO g) (ev Γ b))) (hy : PE X y (T g W (RlO g) (ev Γ a))) :
    PS X (.Assign [.Subscript x t p2] y p) (TS g W cs (ex Γ cs (.setIx i b a))) := by
  refine PS_imp (L2.ps_asg (PE_frz hy) (L2.pg_sub (look_name C.C cx) (PE_frz ht) L2.set_list (fun v => assign_sub hs v)) (show swapsWith y (some (.Subscript x t p2)) p.line X.env = pure false from swaps_no hn) (by cases y <;> rfl) rfl) fun D σ H q => ?_
  obtain ⟨G, s, F, R, p⟩ := q
  have p : PostS g W cs σ G H (Own F) D ((frzR (ev Γ a s)).bind fun v s1 => match getO s1 i with
    | .lst _ => (frzR (ev Γ b s1)).bind fun j s2 => setIxR i j v s2
    | _ => .bad) := p
  refine S_bind0 (f := fun s => frzR (ev Γ a s)) poor_V R p fun u H1 G1 s1 F1 w t1 R1 hw p => ?_
  cases hg : getO s1 i with
  | emp => rw [hg] at p; exact p.elim
  | sh v => rw [hg] at p; exact p.elim
  | obj c v => rw [hg] at p; exact p.elim
  | lst ys =>
    rw [hg] at p
    obtain ⟨hi, b, vs, ew, _⟩ := at_lst R1 hg
    refine ⟨.ref b, ew, S_bind0 (f := fun s => frzR (ev Γ _ s)) poor_V R1 p fun z H2 G2 s2 F2 j t2 R2 hj p => ?_⟩
    exact setIx_ok R2 ew hj.2 (Rep.mono t2.g _ _ hw.2) p
/-! ### name op= e -/
def rAug (o : BOp) : L2.R2 := fun x y H Q => ∃ i j z, x = .int i ∧ y = .int j ∧ augop o i j = some z ∧ Q (.int z) H
theorem iop_aug {o : BOp} {op : Operator} (h : opB o op = true) : OpR X (inplaceOp op) (rAug o) := by
  cases o <;> cases op <;> first | (exact absurd (show false = true from h) Bool.false_ne_true) | skip
  · exact imp_op L2.iop_add fun x y H Q ⟨i, j, z, e1, e2, e3, q⟩ => by cases e3; exact ⟨i, j, e1, e2, q⟩
  · exact imp_op L2.iop_sub fun x y H Q ⟨i, j, z, e1, e2, e3, q⟩ => by cases e3; exact ⟨i, j, e1, e2, q⟩
  · refine imp_op L2.iop_mul fun x y H Q ⟨i, j, z, e1, e2, e3, q⟩ => ?_
    have e3 : (if (-(2 ^ 64) < i ∧ i < 2 ^ 64) ∨ (-(2 ^ 64) < j ∧ j < 2 ^ 64) then some (i * j) else none) = some z := e3
    split at e3
    · cases e3; exact ⟨i, j, e1, e2, by assumption, q⟩
    · cases e3
  · refine imp_op L2.iop_mod fun x y H Q ⟨i, j, z, e1, e2, e3, q⟩ => ?_
    have e3 : (if 0 < j then some (i % j) else none) = some z := e3
    split at e3
    · cases e3; exact ⟨i, j, e1, e2, by assumption, q⟩
    · cases e3
  · refine imp_op L2.iop_fdiv fun x y H Q ⟨i, j, z, e1, e2, e3, q⟩ => ?_
    have e3 : (if 0 < j ∧ j < 1073741824 then some (i / j) else none) = some z := e3
    split at e3
    · cases e3; exact ⟨i, j, e1, e2, by assumption, q⟩
    · cases e3
  · intro pins s σ H x y v u Q I rx ry h
    obtain ⟨i, j, z, _, _, e, _⟩ := h
    cases e
theorem s_aug (C : CxF g gn Γ N k sc W X) {i : Nat} {o : BOp} {op : Operator} (ho : opB o op = true) (hi : isNmL N sc i t = true) (hy : PE X y (T g W (RlO g) (ev Γ a))) : PS X (.AugAssign t op y p) (TS g W cs (ex Γ cs (.aug i o a))) := by
  obtain ⟨x, px, rfl, h1, h2⟩ := isNmL_ok hi
  refine PS_imp (L2.ps_aug (i := i) C.C.nd (by rw [C.C.hN]; exact isNm_ok h1) (by rw [C.C.hsc]; exact h2) (PE_frz hy) (ti := rAug o) (iop_aug ho) (.inl (C.fnT x))) fun D σ H q => ?_
  obtain ⟨G, s, F, R, p⟩ := q
  have p : PostS g W cs σ G H (Own F) D ((intR (Res.opt (getV s i) s)).bind fun x s0 => (intR (frzR (ev Γ a s0))).bind fun y s1 => (Res.opt (augop o x y) s1).bind fun z s2 => setV cs i (.sh (.int z)) s2) := p
  cases hv : getV s i with
  | none => rw [hv] at p; exact p.elim
  | some v =>
    rw [hv] at p
    obtain ⟨_, z, ez, pk⟩ := R.look hv
    cases v with
    | int n =>
      cases (show z = .int n from pk)
      have p : PostS g W cs σ G H (Own F) D ((intR (frzR (ev Γ a s))).bind fun y s1 => (Res.opt (augop o n y) s1).bind fun z s2 => setV cs i (.sh (.int z)) s2) := p
      refine ⟨_, ez, S_int (f := fun s => frzR (ev Γ a s)) R p fun m H1 G1 s1 F1 t1 R1 p => ?_⟩
      cases e : augop o n m with
      | none => rw [e] at p; exact p.elim
      | some z =>
        rw [e] at p
        refine ⟨n, m, z, rfl, rfl, e, ?_⟩
        have p : PostS g W cs σ G1 H1 (Own F1) D (setV cs i (.sh (.int z)) s1) := p
        exact set_nx (P := none_) (o := .sh (.int z)) R1 (fun _ z => z.elim) ⟨fun _ z => z, _, rfl, rep_int⟩ (p.sup fun a z => z.elim (fun z => z.elim) id)
    | _ => exact (show False from p).elim
/-! ### xs[k] op= e -/
theorem get_list : L2.PGet X (L2.rIxL X.K) := by
  intro pins s σ H o i v u Q I rx ry h
  obtain ⟨p, xs, i, z, rfl, rfl, hq, he, q⟩ := h
  cases rx
  obtain ⟨t, rfl⟩ := ry
  obtain ⟨its, r, pl, hz⟩ := I.list hq
  obtain ⟨j, h1, h2, h3, h4, h5⟩ := L2.atI_get he
  obtain ⟨w, ew, rw'⟩ := r.get h2
  have hl := r.length
  have hn := L2.line63
  have fin : L2.EP X pins σ Q w s := ⟨z, H, I, rw', q⟩
  by_cases h0 : 0 ≤ i
  · have hj : i.toNat = j := by
      rw [seqIndex_of h0 h5] at h1
      exact Option.some.inj h1
    exact PySem.wpAny_getItem_list pl.isList h0 (by omega) (by rw [hj]; simpa using ew) fin
  · have hj : (i + (its.toArray.size : Int)).toNat = j := by
      rw [seqIndex_neg (by omega) h4] at h1
      rw [List.size_toArray, ← hl]
      exact Option.some.inj h1
    exact PySem.wpAny_getItem_list_neg pl.isList (by omega) (by rw [List.size_toArray] <;> omega) (by omega) (by rw [hj]; simpa using ew) fin
theorem aug_sub {i : Expr} (h : notSub i = true) (ov iv new : Value) : augStore i ov iv new = (do holding [new, ov, iv] (setItem ov iv new); release [new, ov, iv] []; pure .next) := by
  cases i <;> first | rfl | exact ff h
theorem s_augIx (C : CxF g gn Γ N k sc W X) {i : Nat} {o : BOp} {op : Operator} {p2 : Pos} (ho : opB o op = true) (hs : notSub t = true) (cx : chk gn N sc (.var i) x = true) (ht : PE X t (T g W (RlO g) (ev Γ b))) (hy : PE X y (T g W (RlO g) (ev Γ a))) :
    PS X (.AugAssign (.Subscript x t p2) op y p) (TS g W cs (ex Γ cs (.augIx i b o a))) := by
  refine PS_imp (L2.ps_augS (look_name C.C cx) (PE_frz ht) get_list (PE_frz hy) (tip := rAug o) (iop_aug ho) L2.set_list (aug_sub hs)) fun D σ H q => ?_
  obtain ⟨G, s, F, R, p⟩ := q
  have p : PostS g W cs σ G H (Own F) D (match getO s i with
    | .lst _ => (intR (frzR (ev Γ b s))).bind fun j s1 => (intR (Res.opt (idxO (getO s1 i) j) s1)).bind fun x s2 =>
      (intR (frzR (ev Γ a s2))).bind fun y s3 => (Res.opt (augop o x y) s3).bind fun z s4 => setIxR i (.int j) (.int z) s4
    | _ => .bad) := p
  cases hg : getO s i with
  | emp => rw [hg] at p; exact p.elim
  | sh v => rw [hg] at p; exact p.elim
  | obj c v => rw [hg] at p; exact p.elim
  | lst ys =>
    rw [hg] at p
    obtain ⟨hi, d, vs, ew, _⟩ := at_lst R hg
    refine ⟨.ref d, ew, S_int (f := fun s => frzR (ev Γ b s)) R p fun j H1 G1 s1 F1 t1 R1 p => ?_⟩
    cases hv : getO s1 i with
    | emp => rw [hv] at p; exact (show False from p).elim
    | sh v => rw [hv] at p; exact (show False from p).elim
    | obj c v => rw [hv] at p; exact (show False from p).elim
    | lst xs =>
      rw [hv] at p
      obtain ⟨_, d2, ws, ew2, _, h2, r⟩ := at_lst R1 hv
      rw [ew] at ew2; cases ew2
      have p : PostS g W cs σ G1 H1 (Own F1) D ((intR (Res.opt ((ixN xs.length j).bind fun k => xs[k]?) s1)).bind fun x s2 =>
        (intR (frzR (ev Γ a s2))).bind fun y s3 => (Res.opt (augop o x y) s3).bind fun z s4 => setIxR i (.int j) (.int z) s4) := p
      cases hx : (ixN xs.length j).bind fun k => xs[k]? with
      | none => rw [hx] at p; exact (show False from p).elim
      | some m =>
        rw [hx] at p
        cases m with
        | int m =>
          have p : PostS g W cs σ G1 H1 (Own F1) D ((intR (frzR (ev Γ a s1))).bind fun y s3 => (Res.opt (augop o m y) s3).bind fun z s4 => setIxR i (.int j) (.int z) s4) := p
          obtain ⟨u, e1, e2⟩ := atI_rep r hx
          cases (show u = .int m from e2)
          refine ⟨d, ws, j, .int m, rfl, rfl, .inl (.inl h2), e1, S_int (f := fun s => frzR (ev Γ a s)) R1 p fun n H3 G3 s3 F3 t3 R3 p => ?_⟩
          cases ea : augop o m n with
          | none => rw [ea] at p; exact (show False from p).elim
          | some w =>
            rw [ea] at p
            have p : PostS g W cs σ G3 H3 (Own F3) D (setIxR i (.int j) (.int w) s3) := p
            exact ⟨m, n, w, rfl, rfl, ea, setIx_ok R3 ew (show Rep g G3 (.int j) (.int j) from rfl) (show Rep g G3 (.int w) (.int w) from rfl) p⟩
        | _ => exact (show False from p).elim
/-! ### a, b = x, y -/
/-- a value with others of ours beside it -/
theorem S_bindP {α β : Type} {f : S → Res α} {Rl : RL α β} {kk : α → S → Res Fl} {Q2 : β → Hp → Prop} {P0 : Fp} (R : RS g G H s σ F) (p : PostS g W cs σ G H (fun c => P0 c ∨ Own F c) D ((f s).bind kk))
    (h : ∀ y H2 G1 s1 F1 w P, Stp G H (Own F) G1 H2 (fun c => P c ∨ Own F1 c) → RS g G1 H2 s1 σ F1 → (∀ c, P c → G1 c = none ∧ ¬ Own F1 c) → Rl σ s1 G1 H2 w y P → PostS g W cs σ G1 H2 (fun c => P0 c ∨ P c ∨ Own F1 c) D (kk w s1) → Q2 y H2) : T g W Rl f σ H Q2 := by
  refine ⟨G, s, F, R, ?_⟩
  have lift : ∀ {G1 H1 : Hp} {A1 : Fp}, Stp G H (Own F) G1 H1 A1 → Stp G H (fun c => P0 c ∨ Own F c) G1 H1 (fun c => P0 c ∨ A1 c) := fun t => (t.sup fun _ z => .inr z).sub' fun a z => z.elim (fun z => .inr (.inl z)) .inl
  cases hf : f s with
  | bad => rw [hf] at p; exact p
  | exc e s1 =>
    rw [hf] at p
    exact fun G' H' F' d t R' x => p G' H' σ F' d Keep.refl ((lift t).sub fun _ z => .inr z) R' x
  | ok a s1 =>
    rw [hf] at p
    exact fun G' H' F' P b t R1 d q => h b H' G' s1 F' a P t R1 d q ((p : PostS g W cs σ G H (fun c => P0 c ∨ Own F c) D (kk a s1)).stp Keep.refl (lift t))
/-- what is ours beside a step stays ours -/
theorem beside {P0 : Fp} {A' : Fp} {o : OV} {w : Option (Option V)} (t : Stp G H (Own F) G1 H1 A') (h : OvR g G H o w P0) (d : ∀ c, P0 c → G c = none ∧ ¬ Own F c) : OvR g G1 H1 o w P0 ∧ (∀ c, P0 c → G1 c = none ∧ ¬ A' c) := by
  refine ⟨h.stp t fun a pa => (d a pa).2, fun c pc => ⟨h.free t (fun a pa => (d a pa).2) pc (d c pc).1, fun z => ?_⟩⟩
  rcases t.fnew c z with z | z
  · exact (d c pc).2 z
  · obtain ⟨u, hu⟩ := h.there pc
    rw [hu] at z; cases z
theorem setV_ok {i : Nat} {o : OV} {kk : Fl → S → Res Fl} (p : PostS g W cs σ G H A D ((setV cs i o s).bind kk)) : i < s.length ∧ i ∉ cs ∧ PostS g W cs σ G H A D (kk .nx (s.set i o)) := by
  have p : PostS g W cs σ G H A D ((if (decide (i < s.length) && !cs.contains i) = true then (.ok .nx (s.set i o) : Res Fl) else .bad).bind kk) := p
  cases hc : (decide (i < s.length) && !cs.contains i) with
  | false => rw [hc] at p; exact p.elim
  | true =>
    rw [hc] at p
    rw [Bool.and_eq_true, decide_eq_true_eq] at hc
    exact ⟨hc.1, by simpa using hc.2, p⟩
theorem setV_ok0 {i : Nat} {o : OV} (p : PostS g W cs σ G H A D (setV cs i o s)) : i < s.length ∧ i ∉ cs ∧ PostS g W cs σ G H A D (.ok .nx (s.set i o)) := by
  have e : setV cs i o s = (setV cs i o s).bind Res.ok := (bind_ok _).symm
  rw [e] at p
  exact setV_ok p
theorem isLocal_ok {x : Str} {px : Pos} (h : isLocal sc (.Name x px) = true) : sc.names.lookup x = some .local := of_decide_eq_true h
theorem nm_inj (hN : X.N = N.map mkS) (nd : X.N.Nodup) {i j : Nat} {x y : Str} (h1 : isNm N i x = true) (h2 : isNm N j y = true) (hij : i ≠ j) : x ≠ y := by
  intro e
  subst e
  have e1 := isNm_ok h1
  have e2 := isNm_ok h2
  rw [← hN] at e1 e2
  exact hij (L2.nodup_ix nd e1 e2)
theorem parB_ok {ts vs : List Expr} {t0 : Expr} {tr : List Expr} (e : ts = t0 :: tr) (h : parB ts vs = true) : (ts.all fun u => (u.pos.line == t0.pos.line)) = true ∧ vs.all (foldedForSure 8) = false ∧ vs.all (constantsAlone 8) = false := by
  subst e
  have h : (((t0 :: tr).all fun u => (u.pos.line == t0.pos.line)) && !vs.all (foldedForSure 8) && !vs.all (constantsAlone 8)) = true := h
  rw [Bool.and_eq_true, Bool.and_eq_true, Bool.not_eq_true', Bool.not_eq_true'] at h
  exact ⟨h.1.1, h.1.2, h.2⟩
theorem star_no (h : ∀ a b, x ≠ .Starred a b) : (match x with | .Starred .. => true | _ => false) = false := by
  cases x <;> first | rfl | exact absurd rfl (h _ _)
theorem swapped2 {env : PySem.Env} {x y : Str} {px py pt pt2 : Pos} {n n2 : Nat} {u v : Expr} (hk : env.scope.kind = .function) (hx : env.scope.names.lookup x = some .local) (hy : env.scope.names.lookup y = some .local) (hxy : x ≠ y)
    (hp : parB [.Name x px, .Name y py] [u, v] = true) (su : ∀ a b, u ≠ .Starred a b) (sv : ∀ a b, v ≠ .Starred a b) : swappedStores [.Tuple [.Name x px, .Name y py] n pt] (.Tuple [u, v] n2 pt2) env = pure (some [x, y]) := by
  obtain ⟨h1, h2, h3⟩ := parB_ok rfl hp
  have hb : env.blockKind = .function := by unfold Env.blockKind; rw [hk]; rfl
  have kx : env.kindOf x = some .local := hx
  have ky : env.kindOf y = some .local := hy
  have l2 : (py.line == px.line) = true := by
    rw [List.all_cons, List.all_cons, Bool.and_eq_true, Bool.and_eq_true] at h1
    exact h1.2.1
  have l2 : py.line = px.line := beq_iff_eq.mp l2
  have ed : ([x, y] : List Str).eraseDups = [x, y] := by
    simp [List.eraseDups_cons, Ne.symm hxy]
  unfold swappedStores
  simp only [hb, kx, ky, h2, h3, List.any_cons, List.any_nil, star_no su, star_no sv, List.filterMap_cons, List.filterMap_nil, l2, ed, Expr.pos, List.head?_cons, Option.map_some, Option.getD_some, beq_self_eq_true, List.length_cons, List.length_nil, Bool.and_self, if_true, Bool.or_false]
  rfl
theorem s_par2 (C : CxF g gn Γ N k sc W X) {i j : Nat} {u v : Expr} {n n2 : Nat} {pt pt2 : Pos} (hij : i ≠ j) (h1 : isNmL N sc i x = true) (h2 : isNmL N sc j y = true) (l1 : isLocal sc x = true) (l2 : isLocal sc y = true) (hp : parB [x, y] [u, v] = true) (cu : chk gn N sc a u = true) (cv : chk gn N sc b v = true) :
    PS X (.Assign [.Tuple [x, y] n pt] (.Tuple [u, v] n2 pt2) p) (TS g W cs (ex Γ cs (.par2 i j a b))) := by
  obtain ⟨x, px, rfl, m1, _⟩ := isNmL_ok h1
  obtain ⟨y, py, rfl, m2, _⟩ := isNmL_ok h2
  have C0 := C.C
  have hx : X.env.scope.names.lookup x = some .local := by rw [C0.hsc]; exact isLocal_ok l1
  have hy : X.env.scope.names.lookup y = some .local := by rw [C0.hsc]; exact isLocal_ok l2
  refine ⟨fun pins s σ H D I q => ?_⟩
  refine (L2.ps_par (i := i) (j := j) (pos := p) C0.calm C0.nd (by rw [C0.hN]; exact isNm_ok m1) (by rw [C0.hN]; exact isNm_ok m2) hij hx hy
    (L2.pa_cons (ev_ok a C0 cu) (L2.pa_cons (ev_ok b C0 cv) L2.pa_nil (star_one (chk_plain cv).1)) (star_one (chk_plain cu).1))
    (swapped2 I.ok.kind hx hy (nm_inj C0.hN C0.nd m1 m2 hij) hp (chk_plain cu).1 (chk_plain cv).1) rfl).run pins s σ H D I ?_
  obtain ⟨G, s, F, R, p⟩ := q
  have p : PostS g W cs σ G H (Own F) D ((ev Γ a s).bind fun x s1 => (ev Γ b s1).bind fun y s2 => (setV cs i x s2).bind fun _ s3 => setV cs j y s3) := p
  refine S_bind (f := ev Γ a) R p fun z H1 G1 s1 F1 w P1 t1 R1 d1 q1 p => ?_
  refine S_bindP (f := ev Γ b) R1 p fun z2 H2 G2 s2 F2 w2 P2 t2 R2 d2 q2 p => ?_
  refine ⟨z, z2, rfl, ?_⟩
  obtain ⟨k1, k2⟩ := beside t2 q1 d1
  obtain ⟨i1, n1, p⟩ := setV_ok p
  obtain ⟨i2, n2, p⟩ := setV_ok0 p
  obtain ⟨R3, o3⟩ := put_slot R2 (fun c pc => ⟨(k2 c pc).1, fun z => (k2 c pc).2 (.inr z)⟩) k1 i1
  have d3 : ∀ c, P2 c → G2 c = none ∧ ¬ Own (updF F2 i P1) c := fun c pc => ⟨(d2 c pc).1, fun z => (o3 c z).elim (fun z => (k2 c z).2 (.inl pc)) (d2 c pc).2⟩
  obtain ⟨R4, o4⟩ := put_slot R3 d3 q2 i2
  refine p G2 H2 _ _ ((Keep.set n1).trans (Keep.set n2)) (Stp.refl.sub fun c z => ?_) R4
  rcases o4 c z with z | z
  · exact .inr (.inl z)
  · rcases o3 c z with z | z
    · exact .inl z
    · exact .inr (.inr z)
theorem swapped3 {env : PySem.Env} {x y z : Str} {px py pz pt pt2 : Pos} {n n2 : Nat} {u v w : Expr} (hk : env.scope.kind = .function) (hx : env.scope.names.lookup x = some .local) (hy : env.scope.names.lookup y = some .local) (hz : env.scope.names.lookup z = some .local) (hxy : x ≠ y) (hxz : x ≠ z) (hyz : y ≠ z)
    (hp : parB [.Name x px, .Name y py, .Name z pz] [u, v, w] = true) (su : ∀ a b, u ≠ .Starred a b) (sv : ∀ a b, v ≠ .Starred a b) (sw : ∀ a b, w ≠ .Starred a b) :
    swappedStores [.Tuple [.Name x px, .Name y py, .Name z pz] n pt] (.Tuple [u, v, w] n2 pt2) env = pure (some [x, y, z]) := by
  obtain ⟨h1, h2, h3⟩ := parB_ok rfl hp
  have hb : env.blockKind = .function := by unfold Env.blockKind; rw [hk]; rfl
  have kx : env.kindOf x = some .local := hx
  have ky : env.kindOf y = some .local := hy
  have kz : env.kindOf z = some .local := hz
  rw [List.all_cons, List.all_cons, List.all_cons, Bool.and_eq_true, Bool.and_eq_true, Bool.and_eq_true] at h1
  have l2 : py.line = px.line := beq_iff_eq.mp h1.2.1
  have l3 : pz.line = px.line := beq_iff_eq.mp h1.2.2.1
  have ed : ([x, y, z] : List Str).eraseDups = [x, y, z] := by
    simp [List.eraseDups_cons, Ne.symm hxy, Ne.symm hxz, Ne.symm hyz]
  unfold swappedStores
  simp only [hb, kx, ky, kz, h2, h3, List.any_cons, List.any_nil, star_no su, star_no sv, star_no sw, List.filterMap_cons, List.filterMap_nil, l2, l3, ed, Expr.pos, List.head?_cons, Option.map_some, Option.getD_some, beq_self_eq_true, List.length_cons, List.length_nil, Bool.and_self, if_true, Bool.or_false]
  rfl
theorem s_par3 (C : CxF g gn Γ N k sc W X) {i j m : Nat} {u v w z : Expr} {n n2 : Nat} {pt pt2 : Pos} (hij : i ≠ j) (him : i ≠ m) (hjm : j ≠ m) (h1 : isNmL N sc i x = true) (h2 : isNmL N sc j y = true) (h3 : isNmL N sc m z = true) (l1 : isLocal sc x = true) (l2 : isLocal sc y = true) (l3 : isLocal sc z = true)
    (hp : parB [x, y, z] [u, v, w] = true) (cu : chk gn N sc a u = true) (cv : chk gn N sc b v = true) (cw : chk gn N sc c w = true) :
    PS X (.Assign [.Tuple [x, y, z] n pt] (.Tuple [u, v, w] n2 pt2) p) (TS g W cs (ex Γ cs (.par3 i j m a b c))) := by
  obtain ⟨x, px, rfl, m1, _⟩ := isNmL_ok h1
  obtain ⟨y, py, rfl, m2, _⟩ := isNmL_ok h2
  obtain ⟨z, pz, rfl, m3, _⟩ := isNmL_ok h3
  have C0 := C.C
  have hx : X.env.scope.names.lookup x = some .local := by rw [C0.hsc]; exact isLocal_ok l1
  have hy : X.env.scope.names.lookup y = some .local := by rw [C0.hsc]; exact isLocal_ok l2
  have hz : X.env.scope.names.lookup z = some .local := by rw [C0.hsc]; exact isLocal_ok l3
  refine ⟨fun pins s σ H D I q => ?_⟩
  refine (L2.ps_par3 (i := i) (j := j) (l := m) (pos := p) C0.calm C0.nd (by rw [C0.hN]; exact isNm_ok m1) (by rw [C0.hN]; exact isNm_ok m2) (by rw [C0.hN]; exact isNm_ok m3) hij him hjm hx hy hz
    (L2.pa_cons (ev_ok a C0 cu) (L2.pa_cons (ev_ok b C0 cv) (L2.pa_cons (ev_ok c C0 cw) L2.pa_nil (star_one (chk_plain cw).1)) (star_one (chk_plain cv).1)) (star_one (chk_plain cu).1))
    (swapped3 I.ok.kind hx hy hz (nm_inj C0.hN C0.nd m1 m2 hij) (nm_inj C0.hN C0.nd m1 m3 him) (nm_inj C0.hN C0.nd m2 m3 hjm) hp (chk_plain cu).1 (chk_plain cv).1 (chk_plain cw).1) rfl).run pins s σ H D I ?_
  obtain ⟨G, s, F, R, p⟩ := q
  have p : PostS g W cs σ G H (Own F) D ((ev Γ a s).bind fun x s1 => (ev Γ b s1).bind fun y s2 => (ev Γ c s2).bind fun z s3 =>
      (setV cs i x s3).bind fun _ s4 => (setV cs j y s4).bind fun _ s5 => setV cs m z s5) := p
  refine S_bind (f := ev Γ a) R p fun z1 H1 G1 s1 F1 w1 P1 t1 R1 d1 q1 p => ?_
  refine S_bindP (f := ev Γ b) R1 p fun z2 H2 G2 s2 F2 w2 P2 t2 R2 d2 q2 p => ?_
  obtain ⟨k1, k2⟩ := beside t2 q1 d1
  have p : PostS g W cs σ G2 H2 (fun c => (P1 c ∨ P2 c) ∨ Own F2 c) D ((ev Γ c s2).bind fun z s3 =>
      (setV cs i w1 s3).bind fun _ s4 => (setV cs j w2 s4).bind fun _ s5 => setV cs m z s5) := p.sup fun a z => z.elim (fun z => z.elim .inl fun z => .inr (.inl z)) fun z => .inr (.inr z)
  refine S_bindP (f := ev Γ c) R2 p fun z3 H3 G3 s3 F3 w3 P3 t3 R3 d3 q3 p => ?_
  refine ⟨z1, z2, z3, rfl, ?_⟩
  obtain ⟨a1, a2⟩ := beside t3 k1 fun c pc => ⟨(k2 c pc).1, fun z => (k2 c pc).2 (.inr z)⟩
  obtain ⟨b1, b2⟩ := beside t3 q2 d2
  obtain ⟨i1, n1, p⟩ := setV_ok p
  obtain ⟨i2, n2, p⟩ := setV_ok p
  obtain ⟨i3, n3, p⟩ := setV_ok0 p
  obtain ⟨R4, o4⟩ := put_slot R3 (fun c pc => ⟨(a2 c pc).1, fun z => (a2 c pc).2 (.inr z)⟩) a1 i1
  have d4 : ∀ c, P2 c → G3 c = none ∧ ¬ Own (updF F3 i P1) c := fun c pc => ⟨(b2 c pc).1, fun z => (o4 c z).elim (fun z => (k2 c z).2 (.inl pc)) fun z => (b2 c pc).2 (.inr z)⟩
  obtain ⟨R5, o5⟩ := put_slot R4 d4 b1 i2
  have d5 : ∀ c, P3 c → G3 c = none ∧ ¬ Own (updF (updF F3 i P1) j P2) c := fun c pc => ⟨(d3 c pc).1, fun z => (o5 c z).elim (fun z => (b2 c z).2 (.inl pc)) fun z => (o4 c z).elim (fun z => (a2 c z).2 (.inl pc)) (d3 c pc).2⟩
  obtain ⟨R6, o6⟩ := put_slot R5 d5 q3 i3
  refine p G3 H3 _ _ (((Keep.set n1).trans (Keep.set n2)).trans (Keep.set n3)) (Stp.refl.sub fun c z => ?_) R6
  rcases o6 c z with z | z
  · exact .inr (.inl z)
  · rcases o5 c z with z | z
    · exact .inl (.inr z)
    · rcases o4 c z with z | z
      · exact .inl (.inl z)
      · exact .inr (.inr z)
end
end PF
set_option Elab.async false
set_option linter.all false
set_option maxRecDepth 100000
set_option maxHeartbeats 2000000
/-! PF, part p: control flow; every statement. -/
namespace PF
open PySem PySem.Spec PyProof.Rows
open L2 (V Hp HO upd upd_same upd_ne Same SqL SqT WX PE PT PA PC PS PSs OpR CallR IxR SlR MtR TruR VK Ends)
section
variable {g : Gm} {gn : GN} {Γ : Env} {N : List Tx} {k : Nat} {sc : Scope} {W : WX} {X : L2.Cx} {σ σ1 : L2.St} {H G H1 G1 : Hp} {A A1 : Fp} {a b c : Ex} {l r t x y e : Expr} {p : Pos} {s : S} {F : Nat → Fp} {cs : List Nat} {D D' : Ends} {ba bb : Sts} {xs ys : List Stmt}
theorem s_if (hc : PT X t (T g W RlB (te Γ c))) (ha : PSs X xs (TS g W cs (exs Γ cs ba))) (hb : PSs X ys (TS g W cs (exs Γ cs bb))) : PS X (.If t xs ys p) (TS g W cs (ex Γ cs (.ifs c ba bb))) := by
  refine PS_imp (L2.ps_if hc ha hb) fun D σ H q => ?_
  obtain ⟨G, s, F, R, p⟩ := q
  have p : PostS g W cs σ G H (Own F) D ((te Γ c s).bind fun k s' => if k then exs Γ cs ba s' else exs Γ cs bb s') := p
  refine S_bind0 (f := te Γ c) poor_B R p fun d H1 G1 s1 F1 w t1 R1 hw p => ?_
  have e := hw.2
  subst e
  cases w with
  | true => exact ⟨G1, s1, F1, R1, p⟩
  | false => exact ⟨G1, s1, F1, R1, p⟩
theorem s_while (C : CxF g gn Γ N k sc W X) (hc : PT X t (T g W RlB (te Γ c))) (hb : PSs X xs (TS g W cs (exs Γ cs ba))) : PS X (.While t xs [] p) (TS g W cs (ex Γ cs (.while_ c ba))) := by
  refine PS_imp (L2.ps_while C.po hc hb) fun D σ H q => ?_
  obtain ⟨G, s, F, R, p⟩ := q
  have p : PostS g W cs σ G H (Own F) D (whileL (te Γ c) (exs Γ cs ba) wf s) := p
  let Iv : Nat → L2.St → Hp → Prop := fun m σ' H' => ∃ G' s' F', RS g G' H' s' σ' F' ∧ PostS g W cs σ' G' H' (Own F') D (whileL (te Γ c) (exs Γ cs ba) m s')
  refine ⟨Iv, ⟨wf, G, s, F, R, p⟩, fun m σ H ⟨G, s, F, R, p⟩ => ?_⟩
  cases m with
  | zero => exact (show False from p).elim
  | succ m =>
    have p : PostS g W cs σ G H (Own F) D ((te Γ c s).bind fun k s1 => if k then (exs Γ cs ba s1).bind fun f s' => match f with
      | .nx => whileL (te Γ c) (exs Γ cs ba) m s'
      | .ct => whileL (te Γ c) (exs Γ cs ba) m s'
      | .bk => .ok .nx s'
      | .rt o => .ok (.rt o) s'
      else .ok .nx s1) := p
    refine S_bind0 (f := te Γ c) poor_B R p fun d H1 G1 s1 F1 w t1 R1 hw p => ?_
    have e := hw.2
    subst e
    cases w with
    | false => exact nx_here R1 p
    | true =>
      have p : PostS g W cs σ G1 H1 (Own F1) D ((exs Γ cs ba s1).bind fun f s' => match f with
        | .nx => whileL (te Γ c) (exs Γ cs ba) m s'
        | .ct => whileL (te Γ c) (exs Γ cs ba) m s'
        | .bk => .ok .nx s'
        | .rt o => .ok (.rt o) s') := p
      refine ⟨Iv m, fun σ' H' h => ⟨m, Nat.lt_succ_self m, h⟩, G1, s1, F1, R1, ?_⟩
      cases hx : exs Γ cs ba s1 with
      | bad => rw [hx] at p; exact p
      | exc e s2 => rw [hx] at p; exact p
      | ok f s2 =>
        rw [hx] at p
        cases f with
        | nx => exact fun G' H' σ' F' z t R' => ⟨G', s2, F', R', PostS.stp z t p⟩
        | ct => exact fun G' H' σ' F' z t R' => ⟨G', s2, F', R', PostS.stp z t p⟩
        | bk => exact p
        | rt o => exact p
/-- a body under whatever lock -/
theorem PSs_any {α : Type} {t : α → L2.TS} (h : ∀ a, PSs X xs (t a)) : PSs X xs (fun D σ H => ∃ a, t a D σ H) := ⟨fun pins s σ H D I ⟨a, q⟩ => (h a).run pins s σ H D I q⟩
theorem poor_S : Poor (RlS g) := fun _ _ _ _ _ _ _ h => h.1
theorem s_for (C : CxF g gn Γ N k sc W X) {tg : Tg} {src : Src} {it : Expr} (ht : chkT N sc (fun _ => true) tg t = true) (hn : ∀ env x, foldedSetIterable it env x = pure x) (hi : L2.PI X t it (TI g W (srcs Γ src))) (hb : ∀ cs, PSs X xs (TS g W cs (exs Γ cs ba))) :
    PS X (.For t it xs [] p) (TS g W cs (ex Γ cs (.for_ tg src ba))) := by
  have C0 := C.C
  refine PS_imp (L2.ps_for C.po C0.calm hi (pg_ok (fnc := fun _ => true) C0.hN C0.nd C0.calm (fun x _ => C.fnT x) tg t (by rw [C0.hsc]; exact ht)) (PSs_any hb) (hn _)) fun D σ H q => ?_
  obtain ⟨G, s, F, R, p⟩ := q
  have p : PostS g W cs σ G H (Own F) D ((srcs Γ src s).bind fun p s1 =>
      unlockR p.2 (forL (fun x st => (asgF (lockCs p.2 cs) tg x st).bind fun _ st' => exs Γ (lockCs p.2 cs) ba st') p.1 (lockO p.2 s1))) := p
  refine S_bind0 (f := srcs Γ src) poor_S R p fun J H1 G1 s1 F1 w t1 R1 hsrc p => ?_
  obtain ⟨its, lk⟩ := w
  obtain ⟨Fk, Pr, L⟩ := lock_of R1 hsrc
  let cs' := lockCs lk cs
  let turn : PV → S → Res Fl := fun x st => (asgF cs' tg x st).bind fun _ st' => exs Γ cs' ba st'
  have p : PostS g W cs σ G1 H1 (Own F1) D (unlockR lk (forL turn its (lockO lk s1))) := p
  have csub : ∀ j, j ∈ cs → j ∈ cs' := fun j hj => by
    show j ∈ lockCs lk cs
    cases lk with
    | none => exact hj
    | some q => exact List.mem_cons_of_mem _ hj
  have lkin : ∀ i ov, lk = some (i, ov) → i ∈ cs' := fun i ov e => by
    show i ∈ lockCs lk cs
    rw [e]; exact List.mem_cons_self
  -- the end, however it comes
  have fin : ∀ {G' H' : Hp} {σ' : L2.St} {F' : Nat → Fp} {s' : S} {A' : Fp}, Stp G1 H1 (Own Fk) G' H' A' → (∀ a, Own F' a → A' a) → RS g G' H' s' σ' F' → Keep cs' σ σ' →
      ∃ F'', RS g G' H' (unlock lk s') σ' F'' ∧ (∀ a, Own F'' a → Own F' a ∨ Pr a) := by
    intro G' H' σ' F' s' A' t sub R' kp
    refine unlock_of L R' t sub fun i ov e => ⟨?_, kp.2 i (lkin i ov e)⟩
    obtain ⟨h1, _⟩ := L.at_ i ov e
    rw [R'.len, kp.1, ← R1.len]; exact h1
  have up : ∀ {G' H' : Hp} {F' F'' : Nat → Fp}, Stp G1 H1 (Own Fk) G' H' (Own F') → (∀ a, Own F'' a → Own F' a ∨ Pr a) → Stp G1 H1 (Own F1) G' H' (Own F'') := fun t h => (t.sup L.sub).sub' fun a z => (h a z).imp id fun z => (L.pr a z).1
  have weak : ∀ {σ'}, Keep cs' σ σ' → Keep cs σ σ' := fun q => ⟨q.1, fun j hj => q.2 j (csub j hj)⟩
  refine ⟨fun i m σ' H' => m = its.length - i ∧ i ≤ its.length ∧ ∃ G' s' F', RS g G' H' s' σ' F' ∧ Stp G1 H1 (Own Fk) G' H' (Own F') ∧ Keep cs' σ σ' ∧ PostS g W cs σ G1 H1 (Own F1) D (unlockR lk (forL turn (its.drop i) s')), ⟨its.length, by simp, Nat.zero_le _, G1, lockO lk s1, Fk, L.rs, Stp.refl, Keep.refl, by rw [List.drop_zero]; exact p⟩, ?_⟩
  rintro i m σ' H' ⟨rfl, hle, Gx, sx, Fx, Rx, tx, kx, px⟩
  have keepPr : ∀ a o, Pr a → H1 a = some o → H' a = some o := fun a o pa e => tx.keep a o e (L.pr a pa).2.1
  by_cases hlt : i < its.length
  · refine .inr ⟨L.src.go Gx H' Rx.sub tx.g keepPr i hlt, fun σ2 H2 => ∃ G' s' F', RS g G' H2 s' σ2 F' ∧ Stp G1 H1 (Own Fk) G' H2 (Own F') ∧ Keep cs' σ σ2 ∧ PostS g W cs σ G1 H1 (Own F1) D (unlockR lk (forL turn (its.drop (i + 1)) s')), fun σ2 H2 h => ⟨its.length - (i + 1), by omega, rfl, hlt, h⟩, fun z H2 y => ?_⟩
    have hxi : its[i]? = some its[i] := List.getElem?_eq_getElem hlt
    obtain ⟨G2, m2, t2, r2⟩ := L.src.yld Gx H' Rx.sub tx.g keepPr i z H2 y _ hxi
    have R2 : RS g G2 H2 sx σ' Fx := Rx.stp t2 (fun _ _ z => z) m2
    have t2' : Stp Gx H' (Own Fx) G2 H2 (Own Fx) := (t2.sup (A := Own Fx) fun _ z => z.elim).sub' fun _ z => .inr z
    have tx2 := tx.trans t2'
    rw [List.drop_eq_getElem_cons hlt] at px
    have px : PostS g W cs σ G1 H1 (Own F1) D (unlockR lk ((((if tg.slots.all (fun i => !cs'.contains i) = true then (asgR tg its[i] sx).bind fun _ s' => (.ok .nx s' : Res Fl) else .bad)).bind fun _ st' => exs Γ cs' ba st').bind fun f s' => match f with
      | .nx => forL turn (its.drop (i + 1)) s'
      | .ct => forL turn (its.drop (i + 1)) s'
      | .bk => .ok .nx s'
      | .rt o => .ok (.rt o) s')) := px
    cases hc : tg.slots.all (fun i => !cs'.contains i) with
    | false => rw [hc] at px; exact (show False from px).elim
    | true =>
      rw [hc, if_pos rfl] at px
      cases ha : asg tg its[i] sx with
      | none =>
        have e : asgR tg its[i] sx = .bad := by unfold asgR; rw [ha]
        rw [e] at px; exact (show False from px).elim
      | some s2 =>
        have e : asgR tg its[i] sx = .ok () s2 := by unfold asgR; rw [ha]
        rw [e] at px
        refine asg_of C0.hK tg its[i] z sx s2 σ' Fx _ R2 r2 ha fun σ2 F2 R3 l2 n2 o2 => ?_
        have k2 : Keep cs' σ' σ2 := ⟨l2, fun j hj => n2 j fun z => by
          have := List.all_eq_true.mp hc j z
          simp at this
          exact this hj⟩
        have tx3 : Stp G1 H1 (Own Fk) G2 H2 (Own F2) := tx2.sub fun a z => o2 a z
        have kx3 := kx.trans k2
        have px : PostS g W cs σ G1 H1 (Own F1) D (unlockR lk ((exs Γ cs' ba s2).bind fun f s' => match f with
          | .nx => forL turn (its.drop (i + 1)) s'
          | .ct => forL turn (its.drop (i + 1)) s'
          | .bk => .ok .nx s'
          | .rt o => .ok (.rt o) s')) := px
        refine ⟨cs', G2, s2, F2, R3, ?_⟩
        cases hx : exs Γ cs' ba s2 with
        | bad => rw [hx] at px; exact px
        | exc e s3 =>
          rw [hx] at px
          intro G' H3 σ3 F3 d k3 t3 R' xr
          obtain ⟨F4, R4, o4⟩ := fin (tx3.trans t3) (fun _ z => z) R' (kx3.trans k3)
          exact px G' H3 σ3 F4 d (weak (kx3.trans k3)) (up (tx3.trans t3) o4) R4 xr
        | ok f s3 =>
          rw [hx] at px
          cases f with
          | nx => exact fun G' H3 σ3 F3 k3 t3 R' => ⟨G', s3, F3, R', tx3.trans t3, kx3.trans k3, px⟩
          | ct => exact fun G' H3 σ3 F3 k3 t3 R' => ⟨G', s3, F3, R', tx3.trans t3, kx3.trans k3, px⟩
          | bk =>
            intro G' H3 σ3 F3 k3 t3 R'
            obtain ⟨F4, R4, o4⟩ := fin (tx3.trans t3) (fun _ z => z) R' (kx3.trans k3)
            exact px G' H3 σ3 F4 (weak (kx3.trans k3)) (up (tx3.trans t3) o4) R4
          | rt o =>
            intro G' H3 σ3 F3 P3 v k3 t3 R' d3 q3
            have t4 := tx3.trans t3
            obtain ⟨F4, R4, o4⟩ := fin t4 (fun _ z => .inr z) R' (kx3.trans k3)
            refine px G' H3 σ3 F4 P3 v (weak (kx3.trans k3)) ((t4.sup L.sub).sub' fun a z => ?_) R4 (fun c pc => ⟨(d3 c pc).1, fun z => ?_⟩) q3
            · rcases z with z | z
              · exact .inl (.inl z)
              · exact (o4 a z).elim (fun z => .inl (.inr z)) fun z => .inr (L.pr a z).1
            · rcases o4 c z with z | z
              · exact (d3 c pc).2 z
              · rcases t4.fnew c (.inl pc) with q | q
                · exact (L.pr c z).2.1 q
                · obtain ⟨u, hu⟩ := (L.pr c z).2.2.2
                  rw [hu] at q; cases q
  · have e : i = its.length := by omega
    subst e
    refine .inl ⟨L.src.stop Gx H' Rx.sub tx.g keepPr, ?_⟩
    rw [List.drop_length] at px
    obtain ⟨F4, R4, o4⟩ := fin tx (fun _ z => z) Rx kx
    exact px Gx H' σ' F4 (weak kx) (up tx o4) R4
/-! ### match -/
theorem capNames_ok : ∀ {ps : List Pattern} {xs : List Str}, capNames ps = some xs → ps.length = xs.length ∧ ps.findIdx? (·.isStar) = none ∧ (ps ≠ [] → (ps.all fun p => p.isWildcard || (p.isStar && p.names.isEmpty)) = false) ∧
    ∀ {M : Model} {A : Around} {E : Value → Shared → Prop} {s : Shared} {env : PySem.Env} {vs : List Value} {Q : Option (List (Str × Value)) → Shared → Prop}, vs.length = xs.length → Q (some (xs.zip vs)) s → wpAny M A (matchEach ps env vs) Q E s
  | [], xs, h => by
    cases h
    exact ⟨rfl, rfl, fun z => absurd rfl z, fun {M A E s env vs Q} _ q => by
      rw [List.zip_nil_left] at q
      exact wpAny_matchEach_nil q⟩
  | p :: ps, xs, h => by
    cases p with
    | MatchAs q nm pos =>
      cases q with
      | some q => cases h
      | none =>
        cases nm with
        | none => cases h
        | some x =>
          have h : (capNames ps).map (x :: ·) = some xs := h
          cases hr : capNames ps with
          | none => rw [hr] at h; cases h
          | some ys =>
            rw [hr] at h; cases h
            obtain ⟨h1, h2, h3, h4⟩ := capNames_ok hr
            refine ⟨by simp [h1], ?_, fun _ => rfl, fun {M A E s env vs Q} hl q => ?_⟩
            · rw [List.findIdx?_cons, h2]; rfl
            · cases vs with
              | nil => cases hl
              | cons v vs =>
                refine wpAny_matchEach_cons (wpAny_matchPattern_Capture ?_) rfl
                exact h4 (Nat.succ.inj hl) q
    | _ => cases h
/-- the names of a case are stored -/
theorem bind_all (C : CxF g gn Γ N k sc W X) : ∀ (is : List Nat) (names : List Str) (vs : List PV) (zs : List V) (us : List Value) (s0 : S) (σ : L2.St) (F : Nat → Fp) (pins : List (Addr × Obj)) (s : Shared) (Q : Unit → Shared → Prop), nmsOk N sc is names = true → RS g G H s0 σ F → Reps g G vs zs → L2.Vals zs us → vs.length = is.length →
    (∀ i, i ∈ is → i < s0.length ∧ i ∉ cs) → L2.Inv X pins σ H s →
    (∀ σ' F' s', Keep cs σ σ' → RS g G H (bindAll is vs s0) σ' F' → (∀ a, Own F' a → Own F a) → L2.Inv X pins σ' H s' → Q () s') →
    wpAny (model X.prog X.w) X.A (assignInOrder ((names.zip us).map fun (n, _) => bindName X.env n) ((names.zip us).map (·.2))) Q X.xe s
  | [], names, vs, zs, us, s0, σ, F, pins, s, Q, hn, R, r, rv, hl, hb, I, q => by
    cases names with
    | cons _ _ => exact ff hn
    | nil => exact assignInOrder_nil (q σ F s Keep.refl R (fun _ z => z) I)
  | i :: is, names, vs, zs, us, s0, σ, F, pins, s, Q, hn, R, r, rv, hl, hb, I, q => by
    cases names with
    | nil => exact ff hn
    | cons x names =>
      cases vs with
      | nil => cases hl
      | cons v vs =>
        obtain ⟨z, zr, rfl, r1, r2⟩ := r
        cases rv with
        | cons rv1 rv2 =>
          have hn : (isNm N i x && locB sc (fun _ => true) x && nmsOk N sc is names) = true := hn
          rw [Bool.and_eq_true, Bool.and_eq_true] at hn
          obtain ⟨hi, hc⟩ := hb i List.mem_cons_self
          obtain ⟨R2, o2⟩ := put_slot (o := .sh v) (P := none_) R (fun _ z => z.elim) ⟨fun _ z => z, z, rfl, r1⟩ hi
          refine assignInOrder_cons (wpAny_bindName (L2.store_ok I C.C.nd (by rw [C.C.hN]; exact isNm_ok hn.1.1) (by rw [C.C.hsc]; exact (locB_ok hn.1.2).1) rv1 (fun s1 I1 => ?_) (.inl (C.fnT x))))
          refine bind_all C is names vs zr _ (s0.set i (.sh v)) _ _ pins s1 Q hn.2 R2 r2 rv2 (Nat.succ.inj hl) (fun j hj => ?_) I1 fun σ' F' s' kp R' o' I' => q σ' F' s' ((Keep.set hc).trans kp) R' (fun a z => (o2 a (o' a z)).elim (fun z => z.elim) id) I'
          obtain ⟨k1, k2⟩ := hb j (List.mem_cons_of_mem _ hj)
          exact ⟨by rw [List.length_set]; exact k1, k2⟩
/-- the cases, over a value -/
def MC (g : Gm) (W : WX) (X : L2.Cx) (cs : List Nat) (l : List MatchCase) (f : PV → S → Res Fl) : Prop :=
  ∀ (pins : List (Addr × Obj)) (s : Shared) (σ : L2.St) (G H : Hp) (D : Ends) (s0 : S) (F : Nat → Fp) (w : PV) (z : V) (u : Value) (first : Bool), L2.Inv X pins σ H s → L2.RelV z u → RS g G H s0 σ F → Rep g G w z → PostS g W cs σ G H (Own F) D (f w s0) →
    wpAny (model X.prog X.w) X.A (matchCases l X.env u first) (L2.SP X pins D) X.xe s
theorem m_all {pos : Pos} (hb : PSs X xs (TS g W cs (exs Γ cs ba))) : MC g W X cs [⟨.MatchAs none none pos, none, xs⟩] (fun v => exm Γ cs v (.all ba)) := by
  intro pins s σ G H D s0 F w z u first I rv R r p
  refine wpAny_matchCases_cons (wpAny_matchPattern_Capture ?_)
  exact assignInOrder_nil (hb.run pins s σ H D I ⟨G, s0, F, R, p⟩)
theorem m_seq (C : CxF g gn Γ N k sc W X) {ps : List Pattern} {pos : Pos} {is : List Nat} {names : List Str} {rest : Cases} {l : List MatchCase} (hp : capNames ps = some names) (hne : is ≠ []) (hn : nmsOk N sc is names = true) (hc : PT X t (T g W RlB (te Γ c)))
    (hb : PSs X xs (TS g W cs (exs Γ cs ba))) (hr : MC g W X cs l (fun v => exm Γ cs v rest)) : MC g W X cs (⟨.MatchSequence ps pos, some t, xs⟩ :: l) (fun v => exm Γ cs v (.seq is c ba rest)) := by
  intro pins s σ G H D s0 F w z u first I rv R r p
  obtain ⟨h1, h2, h3, h4⟩ := capNames_ok hp
  have hlen : ∀ {is : List Nat} {names : List Str}, nmsOk N sc is names = true → names.length = is.length := by
    intro is
    induction is with
    | nil => intro names h; cases names with
      | nil => rfl
      | cons _ _ => exact ff h
    | cons i is ih =>
      intro names h
      cases names with
      | nil => exact ff h
      | cons x names =>
        have h : (isNm N i x && locB sc (fun _ => true) x && nmsOk N sc is names) = true := h
        rw [Bool.and_eq_true] at h
        simp [ih h.2]
  have hln := hlen hn
  have hpne : ps ≠ [] := fun e => by
    rw [e] at h1
    have h1 : 0 = names.length := h1
    rw [hln] at h1
    exact hne (List.eq_nil_of_length_eq_zero h1.symm)
  cases w with
  | tup vs =>
    have p : PostS g W cs σ G H (Own F) D (if vs.length = is.length then
        (if is.all (fun i => decide (i < s0.length) && !cs.contains i) then (te Γ c (bindAll is vs s0)).bind fun k s' => if k then exs Γ cs ba s' else exm Γ cs (.tup vs) rest s' else .bad)
      else exm Γ cs (.tup vs) rest s0) := p
    have r0 := r
    obtain ⟨a, zs, rfl, hq, rs⟩ := r
    have rv0 := rv
    cases rv
    obtain ⟨its, rvs, ht, hz⟩ := I.tuple (by rw [C.C.hK]; exact sqT_mono R.sub hq)
    have hlz := rvs.length
    have hlv := rs.length
    have hfit : ((its.toArray.size : Nat) : Int) < 2 ^ 63 := by
      have := L2.line63
      rw [List.size_toArray]; omega
    have I2 : ∀ {n : Nat}, L2.Inv X pins σ H { s with toks := n } := fun {n} => I.tok n
    by_cases hv : vs.length = is.length
    · rw [if_pos hv] at p
      have hs : its.toArray.size = ps.length := by rw [List.size_toArray]; omega
      cases hall : is.all (fun i => decide (i < s0.length) && !cs.contains i) with
      | false => rw [hall] at p; exact (show False from p).elim
      | true =>
        rw [hall, if_pos rfl] at p
        refine wpAny_matchCases_cons (matchSeq_tuple_hit ht hfit hs ?_ h2 (h3 hpne))
        rw [← hs]
        refine unpackItems_tuple (I.ok.hd C.C.calm) (show IsTup ({ s with toks := s.toks + 1 + 1 } : Shared).heap a its.toArray from ht) fun h' hx => ?_
        have I3 : L2.Inv X pins σ H { s with heap := h', toks := s.toks + 1 + 1 } := (I.tok (s.toks + 1 + 1)).kept (h' := h') (t' := s.toks + 1 + 1) fun b o e => hx b o (Nat.ne_of_lt (Heap.lt_size e)) e
        refine h4 (by simp; omega) ?_
        have e0 : its.toArray.toList = its := by simp
        rw [e0]
        refine bind_all (cs := cs) C is names vs zs its s0 σ F pins _ _ hn R rs rvs hv (fun i hi => ?_) I3 fun σ' F' s' kp R' o' I' => ?_
        · have := List.all_eq_true.mp hall i hi
          simp at this
          exact this
        · have p2 : PostS g W cs σ' G H (Own F') D ((te Γ c (bindAll is vs s0)).bind fun k s' => if k then exs Γ cs ba s' else exm Γ cs (.tup vs) rest s') := PostS.stp kp (Stp.refl.sub fun a z => o' a z) p
          refine L2.thn (hc.run pins s' σ' H _ I' (S_bind0 (f := te Γ c) (Q2 := fun d H1 => ∃ G1 s1 F1, Same G G1 ∧ RS g G1 H1 s1 σ' F1 ∧ PostS g W cs σ' G1 H1 (Own F1) D (if d = true then exs Γ cs ba s1 else exm Γ cs (.tup vs) rest s1)) poor_B R' p2 fun d H1 G1 s1 F1 w t1 R1 hw p => ?_)) fun d s2 ⟨H1, I1, q1⟩ => ?_
          · have e := hw.2
            subst e
            exact ⟨G1, s1, F1, t1.g, R1, p⟩
          · obtain ⟨G1, s1, F1, m1, R1, p⟩ := q1
            cases d with
            | true => exact hb.run pins s2 σ' H1 D I1 ⟨G1, s1, F1, R1, p⟩
            | false => exact hr pins s2 σ' G1 H1 D s1 F1 (.tup vs) (.ref a) (.ref a) false I1 rfl R1 (Rep.mono m1 _ _ r0) p
    · rw [if_neg hv] at p
      have hs : its.toArray.size ≠ ps.length := by rw [List.size_toArray]; omega
      refine wpAny_matchCases_cons (matchSeq_tuple_miss ht hfit hs ?_ h2 (h3 hpne))
      exact hr pins _ σ G H D s0 F (.tup vs) (.ref a) (.ref a) false (I.tok _) rfl R r0 p
  | _ => exact (show False from p).elim
theorem s_match {rest : Cases} {l : List MatchCase} (hx : PE X x (T g W (RlO g) (ev Γ a))) (hr : MC g W X cs l (fun v => exm Γ cs v rest)) : PS X (.Match x l p) (TS g W cs (ex Γ cs (.mtch a rest))) := by
  refine ⟨fun pins s σ H D I q => ?_⟩
  obtain ⟨G, s0, F, R, p⟩ := q
  have p : PostS g W cs σ G H (Own F) D ((frzR (ev Γ a s0)).bind fun v s' => exm Γ cs v rest s') := p
  refine wpAny_Match (L2.thn ((PE_frz hx).run pins s σ H _ I (S_bind0 (f := fun s => frzR (ev Γ a s)) (Q2 := fun z H1 => ∃ G1 s1 F1 w, RS g G1 H1 s1 σ F1 ∧ Rep g G1 w z ∧ PostS g W cs σ G1 H1 (Own F1) D (exm Γ cs w rest s1)) poor_V R p fun z H1 G1 s1 F1 w t1 R1 hw p => ⟨G1, s1, F1, w, R1, hw.2, p⟩)) fun u s1 ⟨z, H1, I1, r1, q1⟩ => ?_)
  obtain ⟨G1, s2, F1, w, R1, hw, p⟩ := q1
  exact hr pins s1 σ G1 H1 D s2 F1 w z u true I1 r1 R1 hw p
theorem b_nl : PSs X [] (TS g W cs (exs Γ cs .nil)) := PSs_imp L2.pss_nil fun D σ H q => by
  obtain ⟨G, s, F, R, p⟩ := q
  exact nx_here R p
theorem b_cs {st : Stmt} {s1 : St} (h1 : PS X st (TS g W cs (ex Γ cs s1))) (h2 : PSs X xs (TS g W cs (exs Γ cs ba))) : PSs X (st :: xs) (TS g W cs (exs Γ cs (.cons s1 ba))) := by
  refine PSs_imp (L2.pss_cons h1 h2) fun D σ H q => ?_
  obtain ⟨G, s, F, R, p⟩ := q
  have p : PostS g W cs σ G H (Own F) D ((ex Γ cs s1 s).bind fun f s' => match f with
    | .nx => exs Γ cs ba s'
    | f => .ok f s') := p
  refine ⟨G, s, F, R, ?_⟩
  cases hx : ex Γ cs s1 s with
  | bad => rw [hx] at p; exact p
  | exc e s2 => rw [hx] at p; exact p
  | ok f s2 =>
    rw [hx] at p
    cases f with
    | nx => exact fun G' H' σ' F' z t R' => ⟨G', s2, F', R', PostS.stp z t p⟩
    | ct => exact p
    | bk => exact p
    | rt o => exact p
end
section
variable {g : Gm} {gn : GN} {Γ : Env} {N : List Tx} {k : Nat} {sc : Scope} {W : WX} {X : L2.Cx}
mutual
theorem st_ok : ∀ (m : St) {st : Stmt} (cs : List Nat), CxF g gn Γ N k sc W X → chkSt gn N sc m st = true → PS X st (TS g W cs (ex Γ cs m))
  | .expr e, st, cs, C, h => by
    cases st <;> first | exact ff h | skip
    rename_i x p
    have h : (!isComp x && chk gn N sc e x) = true := h
    rw [Bool.and_eq_true, Bool.not_eq_true'] at h
    exact s_expr h.1 (ev_ok e C.C h.2)
  | .app i e, st, cs, C, h => by
    cases st <;> first | exact ff h | skip
    rename_i x p
    cases x <;> first | exact ff h | skip
    rename_i f l ks cp
    cases f <;> first | exact ff h | skip
    rename_i o at_ ap
    cases o <;> first | exact ff h | skip
    rename_i x px
    rcases l with _ | ⟨y, _ | ⟨y2, l⟩⟩ <;> first | exact ff h | skip
    cases ks <;> first | exact ff h | skip
    have h : (decide (at_ = ("append" : Str)) && (ap.endLine == cp.line) && chk gn N sc (.var i) (.Name x px) && chk gn N sc e y) = true := h
    simp only [Bool.and_eq_true, decide_eq_true_eq] at h
    obtain ⟨⟨⟨h1, h2⟩, h3⟩, h4⟩ := h
    subst h1
    exact s_app C h2 h3 h4 (ev_ok e C.C h4)
  | .set t e, st, cs, C, h => by
    cases st <;> first | exact ff h | skip
    rename_i l y p
    rcases l with _ | ⟨tg, _ | ⟨t2, l⟩⟩ <;> first | exact ff h | skip
    have h : (notTup y && lone y && chkT N sc (fun _ => true) t tg && chk gn N sc e y) = true := h
    simp only [Bool.and_eq_true] at h
    exact s_set C h.1.1.1 h.1.1.2 h.1.2 h.2
  | .par2 i j a b, st, cs, C, h => by
    unfold chkSt at h
    split at h
    · simp only [Bool.and_eq_true, decide_eq_true_eq] at h
      obtain ⟨⟨⟨⟨⟨⟨⟨h1, h2⟩, h3⟩, h4⟩, h5⟩, h6⟩, h7⟩, h8⟩ := h
      exact s_par2 C h1 h2 h3 h4 h5 h6 h7 h8
    · exact ff h
  | .par3 i j m a b c, st, cs, C, h => by
    unfold chkSt at h
    split at h
    · simp only [Bool.and_eq_true, decide_eq_true_eq] at h
      obtain ⟨⟨⟨⟨⟨⟨⟨⟨⟨⟨⟨⟨h1, h2⟩, h3⟩, h4⟩, h5⟩, h6⟩, h7⟩, h8⟩, h9⟩, h10⟩, h11⟩, h12⟩, h13⟩ := h
      exact s_par3 C h1 h2 h3 h4 h5 h6 h7 h8 h9 h10 h11 h12 h13
    · exact ff h
  | .setIx i b e, st, cs, C, h => by
    cases st <;> first | exact ff h | skip
    rename_i l y p
    rcases l with _ | ⟨tg, _ | ⟨t2, l⟩⟩ <;> first | exact ff h | (cases tg <;> exact ff h) | skip
    cases tg <;> first | exact ff h | skip
    rename_i x s p2
    have h : (notSub s && !isComp y && chk gn N sc (.var i) x && chk gn N sc b s && chk gn N sc e y) = true := h
    simp only [Bool.and_eq_true, Bool.not_eq_true'] at h
    obtain ⟨⟨⟨⟨h1, h2⟩, h3⟩, h4⟩, h5⟩ := h
    exact s_setIx C h1 h2 h3 (ev_ok b C.C h4) (ev_ok e C.C h5)
  | .aug i o e, st, cs, C, h => by
    cases st <;> first | exact ff h | skip
    rename_i t op y p
    have h : (opB o op && isNmL N sc i t && chk gn N sc e y) = true := h
    simp only [Bool.and_eq_true] at h
    exact s_aug C h.1.1 h.1.2 (ev_ok e C.C h.2)
  | .augIx i b o e, st, cs, C, h => by
    cases st <;> first | exact ff h | skip
    rename_i t op y p
    cases t <;> first | exact ff h | skip
    rename_i x s p2
    have h : (opB o op && notSub s && chk gn N sc (.var i) x && chk gn N sc b s && chk gn N sc e y) = true := h
    simp only [Bool.and_eq_true] at h
    obtain ⟨⟨⟨⟨h1, h2⟩, h3⟩, h4⟩, h5⟩ := h
    exact s_augIx C h1 h2 h3 (ev_ok b C.C h4) (ev_ok e C.C h5)
  | .ret e, st, cs, C, h => by
    cases st <;> first | exact ff h | skip
    rename_i o p
    cases o <;> first | exact ff h | skip
    exact s_ret (ev_ok e C.C h)
  | .retN, st, cs, C, h => by
    cases st <;> first | exact ff h | skip
    rename_i o p
    cases o <;> first | exact ff h | skip
    exact s_retN
  | .pass, st, cs, C, h => by
    cases st <;> first | exact ff h | skip
    exact s_pass
  | .brk, st, cs, C, h => by
    cases st <;> first | exact ff h | skip
    exact s_brk
  | .cont, st, cs, C, h => by
    cases st <;> first | exact ff h | skip
    exact s_cont
  | .ifs c a b, st, cs, C, h => by
    cases st <;> first | exact ff h | skip
    rename_i t x y p
    have h : (chk gn N sc c t && chkSts gn N sc a x && chkSts gn N sc b y) = true := h
    simp only [Bool.and_eq_true] at h
    exact s_if (te_ok c C.C h.1.1) (sts_ok a cs C h.1.2) (sts_ok b cs C h.2)
  | .for_ tg src b, st, cs, C, h => by
    cases st <;> first | exact ff h | skip
    rename_i t it x oe p
    cases oe <;> first | exact ff h | skip
    have h : (chkT N sc (fun _ => true) tg t && chkS gn N sc src it t && chkSts gn N sc b x) = true := h
    simp only [Bool.and_eq_true] at h
    exact s_for C h.1.1 (chkS_noset h.1.2) (srcs_ok src C.C h.1.2) fun cs => sts_ok b cs C h.2
  | .while_ c b, st, cs, C, h => by
    cases st <;> first | exact ff h | skip
    rename_i t x oe p
    cases oe <;> first | exact ff h | skip
    have h : (chk gn N sc c t && chkSts gn N sc b x) = true := h
    simp only [Bool.and_eq_true] at h
    exact s_while C (te_ok c C.C h.1) (sts_ok b cs C h.2)
  | .raise _ _, st, cs, C, h => ff h
  | .mtch e r, st, cs, C, h => by
    cases st <;> first | exact ff h | skip
    rename_i x l p
    have h : (chk gn N sc e x && chkCs gn N sc r l) = true := h
    simp only [Bool.and_eq_true] at h
    exact s_match (ev_ok e C.C h.1) (cs_ok r cs C h.2)
  | .never, st, cs, C, h => PS_no fun D σ H ⟨_, _, _, _, p⟩ => p
theorem sts_ok : ∀ (m : Sts) {l : List Stmt} (cs : List Nat), CxF g gn Γ N k sc W X → chkSts gn N sc m l = true → PSs X l (TS g W cs (exs Γ cs m))
  | .nil, l, cs, C, h => by
    cases l with
    | nil => exact b_nl
    | cons x l => exact ff h
  | .cons a r, l, cs, C, h => by
    cases l with
    | nil => exact ff h
    | cons x l =>
      have h : (chkSt gn N sc a x && chkSts gn N sc r l) = true := h
      rw [Bool.and_eq_true] at h
      exact b_cs (st_ok a cs C h.1) (sts_ok r cs C h.2)
theorem cs_ok : ∀ (m : Cases) {l : List MatchCase} (cs : List Nat), CxF g gn Γ N k sc W X → chkCs gn N sc m l = true → MC g W X cs l (fun v => exm Γ cs v m)
  | .all b, l, cs, C, h => by
    rcases l with _ | ⟨⟨pt, gd, x⟩, _ | ⟨y, l⟩⟩ <;> first | exact ff h | skip
    · cases pt <;> first | exact ff h | skip
      rename_i q nm pos
      cases q <;> cases nm <;> cases gd <;> first | exact ff h | skip
      exact m_all (sts_ok b cs C h)
    · cases pt <;> first | exact ff h | skip
      rename_i q nm pos
      cases q <;> cases nm <;> cases gd <;> exact ff h
  | .seq is c b r, l, cs, C, h => by
    rcases l with _ | ⟨⟨pt, gd, x⟩, l⟩ <;> first | exact ff h | skip
    cases pt <;> first | exact ff h | skip
    rename_i ps pos
    cases gd <;> first | exact ff h | skip
    rename_i t
    have h : ((match capNames ps with
      | some xs => !is.isEmpty && decide (is.Nodup) && nmsOk N sc is xs
      | none => false) && chk gn N sc c t && chkSts gn N sc b x && chkCs gn N sc r l) = true := h
    simp only [Bool.and_eq_true] at h
    obtain ⟨⟨⟨h1, h2⟩, h3⟩, h4⟩ := h
    cases hp : capNames ps with
    | none => rw [hp] at h1; exact ff h1
    | some xs =>
      rw [hp] at h1
      simp only [Bool.and_eq_true, Bool.not_eq_true'] at h1
      have hne : is ≠ [] := fun e => by rw [e] at h1; exact absurd h1.1.1 (by simp)
      exact m_seq C hp hne h1.2 (te_ok c C.C h2) (sts_ok b cs C h3) (cs_ok r cs C h4)
end
end
end PF
set_option Elab.async false
set_option linter.all false
set_option maxRecDepth 100000
set_option maxHeartbeats 2000000
/-! PF, part q: every def. -/
namespace PF
open PySem PySem.Spec PyProof.Rows
open L2 (V Hp HO upd upd_same upd_ne Same SqL SqT WX PE PT PA PC PS PSs OpR CallR IxR SlR MtR TruR VK Ends)
/-- a def: its name, its text, what the own text says -/
structure Dn where
  nm : Tx
  st : Stmt
  fn : Fn
def argNames (a : Arguments) : Option (List Str) := match a with
  | ⟨[], l, none, [], [], none, []⟩ => some (l.map (·.arg))
  | _ => none
def defOk (gn : GN) (d : Dn) : Bool :=
  (match (L2.defScope d.st).kind with | .function => true | _ => false) && !(L2.defScope d.st).isCoroutine && !(L2.defScope d.st).isGenerator && decide (d.fn.nm.map mkS).Nodup &&
    decide (argNames (L2.defArgs d.st) = some ((d.fn.nm.map mkS).take d.fn.np)) && decide (d.fn.np ≤ d.fn.nm.length) && decide (d.fn.np ≤ 6) &&
    ((d.fn.nm.map mkS).take d.fn.np).all (fun x => locB (L2.defScope d.st) (fun _ => true) x) && (L2.defScope d.st).names.all (fun y => !(y.2 == .free)) && chkSts gn d.fn.nm (L2.defScope d.st) d.fn.body (L2.defBody d.st)
def gnOf (gl : List Tx) (cl : Nat → Option Tx) (P : List Dn) : GN := ⟨fun i => gl[i]?, fun i => (P[i]?).map Dn.nm, cl⟩
structure Fx (g : Gm) (gn : GN) (glbV : Nat → Option PV) (P : List Dn) (mg : Str → Option Value) : Prop where
  glb : ∀ i t v, gn.glb i = some t → glbV i = some v → ∃ u x, mg (mkS t) = some u ∧ L2.RelV x u ∧ ∀ G, Rep g G v x
  fnm : ∀ i, gn.fn i = (P[i]?).map Dn.nm
  def_ : ∀ (i : Nat) (d : Dn), P[i]? = some d → ∃ fa fd, mg (mkS d.nm) = some (.ref fa) ∧ L2.FunD g.K (mkS d.nm) (mkS d.nm) (L2.defArgs d.st) (L2.defBody d.st) (L2.defScope d.st) [] [] fa fd
  cls : ∀ c t, gn.cls c = some t → mg (mkS t) = some (.ref (g.cl c)) ∧ ∀ v, knV g v → PySem.W.kitOne g.K (typV g v) (.ref (g.cl c)) = some (isTy (.cls c) v)
  ins : ∀ c t, g.kn c → (∀ H a dx fs, H a = some (.ins (g.cl c) dx fs) → L2.TyX g.K H (.ref a) (.ref (g.cl c))) ∧ (t ≠ Ty.cls c → (∀ c', t ≠ .cls c') → PySem.W.kitOne g.K (.ref (g.cl c)) (tyW g t) = some false)
  mgB : ∀ b, mg (biS b) = none
  mgT : ∀ t n, tyS t = some n → mg n = none
  mgR : mg "range" = none ∧ mg "enumerate" = none ∧ mg "zip" = none ∧ mg "isinstance" = none
/-- the parameters are bound by place -/
def BindOk (d : Dn) : Prop := ∀ (x qual : Str) (body : List Stmt) (scope : Scope) (kV doc pm : Value) (an : Option Addr) (cdv ct : Value) (us : List Value), us.length = d.fn.np →
  bindArgs (PySem.W.fnOf x qual (L2.defArgs d.st) body scope .none kV doc pm an cdv ct) ⟨us, []⟩ = pure (((d.fn.nm.map mkS).take d.fn.np).zip us)
section
variable {g : Gm} {gn : GN} {W : WX} {σ : L2.St} {H G : Hp} {s : S} {F : Nat → Fp}
/-- the names beside the parameters stand empty -/
theorem RS.pad {vs : List V} (R : RS g G H s (vs.map some) F) (m : Nat) : RS g G H (s ++ List.replicate m .emp) (vs.map some ++ List.replicate m none) F where
  len := by simp [R.len]
  at_ := fun i hi => by
    by_cases h : i < s.length
    · have e : getO (s ++ List.replicate m OV.emp) i = getO s i := by
        unfold getO
        simp [List.getD, List.getElem?_append_left h]
      rw [e, List.getElem?_append_left (by rw [← R.len]; exact h)]
      exact R.at_ i h
    · have e : getO (s ++ List.replicate m OV.emp) i = .emp := by
        unfold getO
        rw [List.getD, List.getElem?_append_right (Nat.le_of_not_lt h), List.getElem?_replicate]
        split <;> rfl
      rw [e]
      exact fun a z => h (R.out i a z)
  dis := R.dis
  fr := R.fr
  out := fun i a z => by
    have := R.out i a z
    simp; omega
  sub := R.sub
theorem start_at {N : List Str} {vs : List V} {k : Nat} (h : k < vs.length) : (L2.start N vs)[k]? = (vs.map some)[k]? := by
  unfold L2.start
  rw [List.getElem?_append_left (by simpa using h)]
/-- what the parameters hold behind the body -/
theorem outs_rs {fn : Fn} {N : List Str} {vs : List V} (R : RS g G H s σ F) (hn : vs.length = fn.np) (k : Keep fn.cst (L2.start N vs) σ) :
    RS g G H (outsOf fn s) (vs.map some) (fun i => if i < fn.np ∧ i ∈ fn.cst then F i else none_) := by
  have gt : ∀ i, i < fn.np → getO (outsOf fn s) i = if fn.cst.contains i then getO s i else .emp := fun i hi => by
    unfold outsOf
    unfold getO
    rw [List.getD, List.getElem?_map, List.getElem?_range hi]
    rfl
  refine ⟨by simp [outsOf, hn], fun i hi => ?_, fun i j a p q => ?_, fun i a p => ?_, fun i a p => ?_, R.sub⟩
  · have hi : i < fn.np := by simpa [outsOf] using hi
    rw [gt i hi]
    have hv : i < vs.length := by rw [hn]; exact hi
    by_cases hc : i ∈ fn.cst
    · rw [if_pos (by simpa using hc), if_pos ⟨hi, hc⟩]
      have e := k.2 i hc
      rw [start_at hv] at e
      rw [← e]
      have hj : i < s.length := by
        rw [R.len, k.1]
        unfold L2.start
        simp; omega
      exact R.at_ i hj
    · rw [if_neg (by simpa using hc), if_neg (fun z => hc z.2)]
      exact fun a z => z
  · have p : (if i < fn.np ∧ i ∈ fn.cst then F i else none_) a := p
    have q : (if j < fn.np ∧ j ∈ fn.cst then F j else none_) a := q
    split at p <;> split at q <;> first | exact R.dis i j a p q | exact p.elim | exact q.elim
  · have p : (if i < fn.np ∧ i ∈ fn.cst then F i else none_) a := p
    split at p
    · exact R.fr i a p
    · exact p.elim
  · have p : (if i < fn.np ∧ i ∈ fn.cst then F i else none_) a := p
    split at p
    · rename_i z
      simpa [outsOf] using z.1
    · exact p.elim
theorem outs_own {fn : Fn} {a : Addr} (h : Own (fun i => if i < fn.np ∧ i ∈ fn.cst then F i else none_) a) : Own F a := by
  obtain ⟨i, p⟩ := h
  have p : (if i < fn.np ∧ i ∈ fn.cst then F i else none_) a := p
  split at p
  · exact ⟨i, p⟩
  · exact p.elim
/-- a def's body, from the promise at its call -/
theorem body_start {fn : Fn} {Γ : Env} {N : List Str} {vs : List V} {ovs : List OV} {Q : VK} {E : L2.XK} (hN : N.length = fn.nm.length) (hv : vs.length = fn.np) (R : RS g G H ovs (vs.map some) F)
    (p : Post g (fun cls d _ H' => E cls d H') (vs.map some) G H (Own F) (RlO g) Q (runBody Γ fn ovs)) : TS g (fun cls d _ H' => E cls d H') fn.cst (exs Γ fn.cst fn.body) { nx := fun _ H' => Q .non H', rt := Q } (L2.start N vs) H := by
  have hl : ovs.length = fn.np := by rw [R.len, List.length_map, hv]
  have p : Post g (fun cls d _ H' => E cls d H') (vs.map some) G H (Own F) (RlO g) Q (if ovs.length = fn.np then
    match exs Γ fn.cst fn.body (ovs ++ List.replicate (fn.nm.length - fn.np) .emp) with
    | .ok .nx s => .ok (.sh .non) (outsOf fn s)
    | .ok (.rt o) s => .ok o (outsOf fn s)
    | .exc e s => .exc e (outsOf fn s)
    | _ => .bad
  else .bad) := p
  rw [if_pos hl] at p
  refine ⟨G, ovs ++ List.replicate (fn.nm.length - fn.np) .emp, F, ?_, ?_⟩
  · have e : L2.start N vs = vs.map some ++ List.replicate (fn.nm.length - fn.np) none := by
      unfold L2.start
      rw [hN, hv]
    rw [e]
    exact R.pad _
  · cases hx : exs Γ fn.cst fn.body (ovs ++ List.replicate (fn.nm.length - fn.np) .emp) with
    | bad => rw [hx] at p; exact p
    | exc e s =>
      rw [hx] at p
      exact fun G' H' σ' F' d k t R' xr => p G' H' _ d (t.sub fun a z => outs_own z) (outs_rs R' hv k) xr
    | ok f s =>
      rw [hx] at p
      cases f with
      | nx => exact fun G' H' σ' F' k t R' => p G' H' _ none_ .non (t.sub fun a z => z.elim (fun z => z.elim) outs_own) (outs_rs R' hv k) (fun _ z => z.elim) ⟨fun _ z => z, _, rfl, rfl⟩
      | rt o => exact fun G' H' σ' F' P x k t R' d q => p G' H' _ P x (t.sub fun a z => z.imp id outs_own) (outs_rs R' hv k) (fun c pc => ⟨(d c pc).1, fun z => (d c pc).2 (outs_own z)⟩) q
      | bk => exact (show False from p).elim
      | ct => exact (show False from p).elim
end
theorem run_len {Γ : Env} {fn : Fn} {ovs : List OV} (h : runBody Γ fn ovs ≠ .bad) : ovs.length = fn.np := by
  refine Classical.byContradiction fun hl => h ?_
  unfold runBody
  rw [if_neg hl]
def gamma (glbV : Nat → Option PV) (P : List Dn) (d : Nat) : Env := ⟨glbV, fun i => ((P.map Dn.fn)[i]?).elim [] Fn.cst, callD (P.map Dn.fn) glbV d⟩
section
variable {g : Gm} {gn : GN} {glbV : Nat → Option PV} {P : List Dn} {mg : Str → Option Value} {Pr : Program} {w : World} {base : Heap}
theorem defOk_scope {d : Dn} (h : defOk gn d = true) : L2.FnScope (d.fn.nm.map mkS) ((d.fn.nm.map mkS).take d.fn.np) (L2.defScope d.st) ∧ argNames (L2.defArgs d.st) = some ((d.fn.nm.map mkS).take d.fn.np) ∧ ((d.fn.nm.map mkS).take d.fn.np).length = d.fn.np ∧ d.fn.np ≤ 6 ∧
    chkSts gn d.fn.nm (L2.defScope d.st) d.fn.body (L2.defBody d.st) = true := by
  unfold defOk at h
  simp only [Bool.and_eq_true, decide_eq_true_eq, Bool.not_eq_true', List.all_eq_true] at h
  obtain ⟨⟨⟨⟨⟨⟨⟨⟨⟨h1, h2⟩, h3⟩, h4⟩, h5⟩, h6⟩, h7⟩, h8⟩, h9⟩, h10⟩ := h
  have hl : ((d.fn.nm.map mkS).take d.fn.np).length = d.fn.np := by
    rw [List.length_take, List.length_map]; omega
  refine ⟨⟨?_, h2, h3, h4, by rw [hl], fun x hx => (locB_ok (h8 x hx)).1, fun y hy e => ?_⟩, h5, hl, h7, h10⟩
  · split at h1
    · assumption
    · cases h1
  · have := h9 y hy
    rw [e] at this
    cases this
theorem fns_ok (X : Fx g gn glbV P mg) (hP : ∀ (i : Nat) (d : Dn), P[i]? = some d → defOk gn d = true ∧ BindOk d) : ∀ (n : Nat) (i : Nat) (d : Dn) (fa : Addr) (fd : FuncData), P[i]? = some d →
    L2.FunD g.K (mkS d.nm) (mkS d.nm) (L2.defArgs d.st) (L2.defBody d.st) (L2.defScope d.st) [] [] fa fd → L2.FnOk Pr w g.K mg base (L2.CX Pr w) n fa fd ((d.fn.nm.map mkS).take d.fn.np) (SpF g (gamma glbV P n) i)
  | 0, i, d, fa, fd, hi, F => by
    have no : ∀ vs H Q E, ¬ SpF g (gamma glbV P 0) i vs H Q E := fun vs H Q E ⟨G, ovs, F, R, p⟩ => p
    exact ⟨fun vs H Q E h => (no _ _ _ _ h).elim, fun A outer s H args us vs Q E _ _ _ _ h => (no _ _ _ _ h).elim⟩
  | n + 1, i, d, fa, fd, hi, F => by
    obtain ⟨S, ha, hl, h6, hc⟩ := defOk_scope (hP i d hi).1
    have hfn : (P.map Dn.fn)[i]? = some d.fn := by rw [List.getElem?_map, hi]; rfl
    have hcall : ∀ ovs, (gamma glbV P (n + 1)).rho i ovs = runBody (gamma glbV P n) d.fn ovs := fun ovs => by
      show callD (P.map Dn.fn) glbV (n + 1) i ovs = _
      unfold callD
      rw [hfn]
      rfl
    have len : ∀ vs H Q E, SpF g (gamma glbV P (n + 1)) i vs H Q E → vs.length = d.fn.np := fun vs H Q E ⟨G, ovs, F, R, p⟩ => by
      rw [hcall] at p
      have := run_len (Γ := gamma glbV P n) (fn := d.fn) (ovs := ovs) (fun e => by rw [e] at p; exact p)
      rw [← this, R.len, List.length_map]
    refine F.ok S (fun vs H Q E h => by rw [hl]; exact len vs H Q E h) fun cdv A outer s H vs Q E hr h => ?_
    have hlen := len vs H Q E h
    obtain ⟨G, ovs, Fo, R, p⟩ := h
    rw [hcall] at p
    refine ⟨TS g (fun cls d _ H' => E cls d H') d.fn.cst (exs (gamma glbV P n) d.fn.cst d.fn.body), ?_, body_start (by simp) hlen R p⟩
    have C : Cxt g gn (gamma glbV P n) d.fn.nm n (L2.defScope d.st) (fun cls d _ H' => E cls d H') (L2.cxOf (L2.CX Pr w) Pr w g.K mg base (d.fn.nm.map mkS) (mkS d.nm) (L2.defScope d.st) fa cdv A outer s H E) := {
      hK := rfl
      hN := rfl
      nd := S.nd
      hsc := rfl
      calm := rfl
      takes := L2.takes_of rfl rfl rfl rfl
      room := hr
      glb := X.glb
      fn := fun j t hj => by
        rw [X.fnm] at hj
        cases hd : P[j]? with
        | none => rw [hd] at hj; cases hj
        | some dj =>
          rw [hd] at hj; cases hj
          obtain ⟨fb, fdb, hm, Fb⟩ := X.def_ j dj hd
          obtain ⟨Sb, hab, hlb, h6b, _⟩ := defOk_scope (hP j dj hd).1
          exact ⟨fb, fdb, _, hm, Fb.kp, Fb.bindsN fun kV doc pm an cdv ct us hu => (hP j dj hd).2 _ _ _ _ kV doc pm an cdv ct us (by rw [← hlb]; exact hu), fns_ok X hP n j dj fb fdb hd Fb⟩
      cls := X.cls
      ins := X.ins
      mgB := X.mgB
      mgT := X.mgT
      mgR := X.mgR }
    exact sts_ok d.fn.body d.fn.cst ⟨C, L2.passes_of rfl, fun _ => rfl⟩ hc
end
end PF
set_option Elab.async false
set_option linter.all false
set_option maxRecDepth 100000
set_option maxHeartbeats 2000000
/-! PF, part r: the head's facts; a law. -/
namespace PF
open PySem PySem.Spec PyProof.Rows
open L2 (V Hp HO upd upd_same upd_ne Same SqL SqT WX PE PT PA PC PS PSs OpR CallR IxR SlR MtR TruR VK Ends)
/-! ### module constants -/
mutual
def valB (K : PySem.W.Frag) : PV → Value → Bool
  | .non, u => (match u with | .none => true | _ => false)
  | .bl b, u => (match u with | .bool c => b == c | _ => false)
  | .int i, u => (match u with | .int j _ => decide (i = j) | _ => false)
  | .str t, u => (match u with | .str y _ => decide (mkS t = y) | _ => false)
  | .tup xs, u => (match u with
    | .ref a => (match K.lookup a with
      | some ⟨.type c, _, .seq its _, _⟩ => decide (c = "tuple") && decide (its.size ≤ sizeLine) && valsB K xs its.toList
      | _ => false)
    | _ => false)
  | _, _ => false
def valsB (K : PySem.W.Frag) : List PV → List Value → Bool
  | [], us => us.isEmpty
  | x :: xs, us => (match us with
    | u :: us => valB K x u && valsB K xs us
    | _ => false)
end
mutual
theorem valB_ok {g : Gm} {K : PySem.W.Frag} (hK : g.K = K) : ∀ (v : PV) (u : Value), valB K v u = true → ∃ x, L2.RelV x u ∧ ∀ G, Rep g G v x
  | .non, u, h => by
    cases u <;> first | exact ff h | skip
    exact ⟨.non, rfl, fun G => rfl⟩
  | .bl b, u, h => by
    cases u <;> first | exact ff h | skip
    rename_i c
    have e : b = c := beq_iff_eq.mp (show (b == c) = true from h)
    subst e
    exact ⟨.bl b, rfl, fun G => rfl⟩
  | .int i, u, h => by
    cases u <;> first | exact ff h | skip
    rename_i j t
    have e : i = j := of_decide_eq_true (show decide (i = j) = true from h)
    subst e
    exact ⟨.int i, ⟨t, rfl⟩, fun G => rfl⟩
  | .str s, u, h => by
    cases u <;> first | exact ff h | skip
    rename_i y t
    have e : mkS s = y := of_decide_eq_true (show decide (mkS s = y) = true from h)
    subst e
    exact ⟨.str (mkS s), ⟨t, rfl⟩, fun G => rfl⟩
  | .tup xs, u, h => by
    cases u <;> first | exact ff h | skip
    rename_i a
    have h : (match K.lookup a with
      | some ⟨.type c, _, .seq its _, _⟩ => decide (c = "tuple") && decide (its.size ≤ sizeLine) && valsB K xs its.toList
      | _ => false) = true := h
    cases q : K.lookup a with
    | none => rw [q] at h; exact ff h
    | some o =>
      obtain ⟨oc, od, dt, osl⟩ := o
      rw [q] at h
      cases oc <;> first | exact ff h | skip
      cases dt <;> first | exact ff h | skip
      rename_i c its n
      have h : (decide (c = "tuple") && decide (its.size ≤ sizeLine) && valsB K xs its.toList) = true := h
      simp only [Bool.and_eq_true, decide_eq_true_eq] at h
      obtain ⟨⟨h1, h2⟩, h3⟩ := h
      obtain ⟨vs, r, hr⟩ := valsB_ok hK xs its.toList h3
      exact ⟨.ref a, rfl, fun G => ⟨a, vs, rfl, .inr ⟨_, its, n, by rw [hK]; exact q, congrArg Value.type h1, rfl, h2, r⟩, hr G⟩⟩
  | .lst _, u, h => ff h
  | .frz _, u, h => ff h
  | .ins _ _, u, h => ff h
theorem valsB_ok {g : Gm} {K : PySem.W.Frag} (hK : g.K = K) : ∀ (v : List PV) (u : List Value), valsB K v u = true → ∃ x, L2.Vals x u ∧ ∀ G, Reps g G v x
  | [], us, h => by
    cases us with
    | nil => exact ⟨[], .nil, fun G => rfl⟩
    | cons u us => exact ff h
  | x :: xs, us, h => by
    cases us with
    | nil => exact ff h
    | cons u us =>
      have h : (valB K x u && valsB K xs us) = true := h
      rw [Bool.and_eq_true] at h
      obtain ⟨v, r, hr⟩ := valB_ok hK x u h.1
      obtain ⟨vs, rs, hrs⟩ := valsB_ok hK xs us h.2
      exact ⟨v :: vs, .cons r rs, fun G => Reps.cons (hr G) (hrs G)⟩
end
def glbB (K : PySem.W.Frag) (q : Tx × PV) : Bool := match PySem.W.nsIn K mainGlobals (mkS q.1) with
  | some (some u) => valB K q.2 u
  | _ => false
def freeL : List Str := ["len", "abs", "max", "min", "tuple", "list", "int", "all", "any", "sum", "bool", "str", "dict", "range", "enumerate", "zip", "isinstance"]
def freeB (K : PySem.W.Frag) (x : Str) : Bool := He.eqO (PySem.W.nsIn K mainGlobals x) (some none)
def gloB (K : PySem.W.Frag) (x : Str) : Bool := He.eqO (PySem.W.nsIn K mainGlobals x) (some (some (.ref (He.ga K x))))
def dD (d : Dn) : He.DefD := ⟨(mkS d.nm, none), mkS d.nm, mkS d.nm, L2.defArgs d.st, L2.defBody d.st, L2.defScope d.st, [], []⟩
abbrev AlP : Type := Bool × List He.FnW
def obsP (P : List Dn) (gl : List (Tx × PV)) (K : PySem.W.Frag) : AlP := (freeL.all (freeB K) && gl.all (glbB K) && P.all (fun d => gloB K (mkS d.nm) && (dD d).ok K), P.map fun d => He.fnW K (mkS d.nm, none))
def valP (P : List Dn) : AlP := (true, P.map fun d => (dD d).val)
def obsPG (n : Nat) (P : List Dn) (gl : List (Tx × PV)) (g : Addr → Option Obj) : AlP := obsP P gl (He.frG g (He.asD g n))
def hookP (n : Nat) (P : List Dn) (gl : List (Tx × PV)) : PySem.W.Hook where
  α := AlP
  obs := fun s => obsPG n P gl s.heap.get?
  val := fun _ => valP P
  says := fun _ h => ∃ K : PySem.W.Frag, K.In h ∧ obsP P gl K = valP P
  of := fun _ _ e => ⟨_, He.frG_in, e⟩
  keeps := fun _ _ _ ⟨K, hK, c⟩ k => ⟨K, PySem.W.Frag.In.keeps hK k, c⟩
theorem obsPG_eq {n : Nat} {P : List Dn} {gl : List (Tx × PV)} {g : Addr → Option Obj} {s : Shared} (h : ∀ a, g a = s.heap.get? a) : obsPG n P gl g = (hookP n P gl).obs s := by
  have e : g = s.heap.get? := funext h
  rw [e] <;> rfl
def gmOf (K : PySem.W.Frag) : Gm := ⟨K, fun _ => 0, fun _ => [], fun _ => False, fun _ => 0, fun _ => []⟩
def glV (gl : List (Tx × PV)) (i : Nat) : Option PV := (gl[i]?).map (·.2)
def gnP (P : List Dn) (gl : List (Tx × PV)) : GN := ⟨fun i => (gl[i]?).map (·.1), fun i => (P[i]?).map Dn.nm, fun _ => none⟩
section
variable {P : List Dn} {gl : List (Tx × PV)} {K : PySem.W.Frag} {h : Heap} {mg : Str → Option Value}
theorem fx_of (X : K.In h) (G : h.Ns mainGlobals mg) (c : obsP P gl K = valP P) : Fx (gmOf K) (gnP P gl) (glV gl) P mg := by
  have c1 : (freeL.all (freeB K) && gl.all (glbB K) && P.all (fun d => gloB K (mkS d.nm) && (dD d).ok K)) = true := congrArg (fun z : AlP => z.1) c
  have c2 : (P.map fun d => He.fnW K (mkS d.nm, none)) = P.map fun d => (dD d).val := congrArg (fun z : AlP => z.2) c
  simp only [Bool.and_eq_true, List.all_eq_true] at c1
  obtain ⟨⟨hf, hg⟩, hd⟩ := c1
  have fr : ∀ x, x ∈ freeL → mg x = none := fun x hx => PySem.W.mg_none_of X G (He.eqO_ok (hf x hx))
  refine ⟨fun i t v e1 e2 => ?_, fun i => rfl, fun i d hi => ?_, fun c t e => (by cases e), fun c t e => False.elim e, fun b => fr _ ?_, fun t n e => fr _ ?_, ⟨fr _ (by decide), fr _ (by decide), fr _ (by decide), fr _ (by decide)⟩⟩
  · cases q : gl[i]? with
    | none =>
      have e1 : (gl[i]?).map (·.1) = some t := e1
      rw [q] at e1; cases e1
    | some p =>
      have e1 : (gl[i]?).map (·.1) = some t := e1
      have e2 : (gl[i]?).map (·.2) = some v := e2
      rw [q] at e1 e2; cases e1; cases e2
      have z := hg p (List.mem_of_getElem? q)
      unfold glbB at z
      cases w : PySem.W.nsIn K mainGlobals (mkS p.1) with
      | none => rw [w] at z; exact ff z
      | some o =>
        cases o with
        | none => rw [w] at z; exact ff z
        | some u =>
          rw [w] at z
          obtain ⟨x, r, hr⟩ := valB_ok (g := gmOf K) rfl p.2 u z
          exact ⟨u, x, PySem.W.mg_of X G w, r, hr⟩
  · have z := hd d (List.mem_of_getElem? hi)
    have e : (P.map fun d => He.fnW K (mkS d.nm, none))[i]? = (P.map fun d => (dD d).val)[i]? := by rw [c2]
    rw [List.getElem?_map, List.getElem?_map, hi] at e
    obtain ⟨fd, F⟩ := He.DefD.funD (d := dD d) (Option.some.inj e) z.2
    exact ⟨He.ga K (mkS d.nm), fd, PySem.W.mg_of X G (He.eqO_ok z.1), F⟩
  · cases b <;> decide
  · cases t <;> first | (cases e; decide) | cases e
/-- the law's promise, from what the own text computes -/
theorem law_at {n li : Nat} {d : Dn} {l : PySem.W.OpenLaw} {w : World} {t : Tx} {r : List Tx} (X : K.In h) (G : h.Ns mainGlobals mg) (c : obsP P gl K = valP P) (hP : ∀ (i : Nat) (d : Dn), P[i]? = some d → defOk (gnP P gl) d = true ∧ BindOk d)
    (hd : P[li]? = some d) (hp : d.fn.np = 1) (hn : d.fn.nm = t :: r) {fa : Addr} (hfa : mg (mkS d.nm) = some (.ref fa))
    (hlaw : ∀ ns : List Int, ns.length ≤ 63 → (∀ z, z ∈ ns → Builtin.Int.intBits z ≤ 1048576) → ∃ outs, callD (P.map Dn.fn) (glV gl) n li [.sh (.frz (ns.map PV.int))] = .ok (.sh (.bl true)) outs) :
    LamX.LawAtS l w K (L2.CX l.prog w) n 63 (mkS t) mg fa h := by
  have F := fx_of X G c
  obtain ⟨fb, fd, hm, FD⟩ := F.def_ li d hd
  rw [hm] at hfa; cases hfa
  have eN : (d.fn.nm.map mkS).take d.fn.np = [mkS t] := by rw [hn, hp]; rfl
  refine ⟨fd, [], SpF (gmOf K) (gamma (glV gl) P n) li, fun p hp => (by cases hp), fun p hp => (by cases hp), fun p hp => (by cases hp), fun s u => ?_, fun H a ns hl hbits hO hS => ?_, fun base _ _ _ => ?_⟩
  · have z := L2.FunD.bindsA (ps := [mkS t]) FD (fun kV doc pm an cdv ct us hu => by
      have q := (hP li d hd).2 (mkS d.nm) (mkS d.nm) (L2.defBody d.st) (L2.defScope d.st) kV doc pm an cdv ct us (by rw [hp]; exact hu)
      rw [eN] at q
      exact q) s [u] rfl
    exact z
  · have reps : Reps (gmOf K) H (ns.map PV.int) (ns.map V.int) := by
      clear hl hS hlaw hbits
      induction ns with
      | nil => rfl
      | cons i ns ih => exact Reps.cons rep_int ih
    refine ⟨H, [.sh (.frz (ns.map PV.int))], cons1 none_ (fun _ => none_), RS.cons (P := none_) ⟨fun _ z => z, .ref a, rfl, a, _, rfl, hS, reps⟩ (RS.nilS (Same.refl H)) fun _ z => z.elim, ?_⟩
    obtain ⟨outs, e⟩ := hlaw ns hl hbits
    have e : (gamma (glV gl) P n).rho li [.sh (.frz (ns.map PV.int))] = .ok (.sh (.bl true)) outs := e
    rw [e]
    intro G' H' F' P' b t R d q
    obtain ⟨_, x, ex, r⟩ := q
    cases ex
    exact r
  · have z := fns_ok (Pr := l.prog) (w := w) (base := base) F hP n li d _ fd hd FD
    rw [eN] at z
    exact z
theorem cx_no {Pr : Program} {w : World} (H : Hp) (s : Shared) (e : Value) (s' : Shared) (h : L2.CX Pr w [] H s (fun _ _ _ => False) e s') : False := by
  obtain ⟨_, _, _, _, _, _, _, _, _, _, _, _, z⟩ := h
  exact z.elim
end
end PF
set_option Elab.async false
set_option linter.all false
set_option maxRecDepth 100000
/-! PF, part s: runs of the own text, step by step: each rule looks at what is next alone. -/
namespace PF
/-- it ends well, and so -/
def Wz {α : Type} (r : Res α) (Q : α → S → Prop) : Prop := match r with
  | .ok a s => Q a s
  | _ => False
def wO {α : Type} (o : Option α) (Q : α → Prop) : Prop := match o with
  | some a => Q a
  | none => False
def wI (v : PV) (Q : Int → Prop) : Prop := match v with
  | .int i => Q i
  | _ => False
def wB (b : Bool) (A B : Prop) : Prop := if b = true then A else B
def wF (f : Fl) (A B : Prop) : Prop := match f with
  | .nx => A
  | _ => B
def wV (o : OV) (i : Nat) (s : S) (Q : OV → S → Prop) : Prop := match o with
  | .emp => False
  | .sh v => Q (.sh v) s
  | .lst xs => Q (.sh (.lst xs)) (s.set i (.sh (.lst xs)))
  | .obj c fs => Q (.sh (.ins c fs)) (s.set i (.sh (.ins c fs)))
def wL (o : OV) (Q : List PV → Prop) : Prop := match o with
  | .lst xs => Q xs
  | _ => False
def isV : Ex → Option Nat
  | .var i => some i
  | _ => none
def wLate {α : Type} (m : Option Nat) (fa : S → Res OV) (k : S → Res α) (s : S) (Q : PV × α → S → Prop) : Prop := match m with
  | some i => wO (getV s i) fun _ => Wz (k s) fun y s' => wO (getV s' i) fun x => Q (x, y) s'
  | none => Wz (fa s) fun o s1 => wO o.pv fun x => Wz (k s1) fun y s2 => Q (x, y) s2
def wPeek (m : Option Nat) (fa : S → Res OV) (s : S) (Q : PV → S → Prop) : Prop := match m with
  | some i => wO (getV s i) fun x => Q x s
  | none => Wz (fa s) fun o s1 => wO o.pv fun x => Q x s1
def wArg (m : Option Nat) (fa : S → Res OV) (b : Bool) (s : S) (Q : CA → S → Prop) : Prop := match m with
  | some i => wB ((getO s i).own && b) (Q (.s i) s) (Wz (fa s) fun o s1 => wO o.pv fun x => Q (.v x) s1)
  | none => Wz (fa s) fun o s1 => wO o.pv fun x => Q (.v x) s1
section
variable {α β : Type}
theorem z_wp_ok {Q : α → S → Prop} (a : α) (s : S) : Wz (.ok a s) Q = Q a s := rfl
theorem z_wp_bind {Q : α → S → Prop} (r : Res β) (k : β → S → Res α) : Wz (r.bind k) Q = Wz r (fun b s => Wz (k b s) Q) := by cases r <;> rfl
theorem z_wp_opt {Q : α → S → Prop} (o : Option α) (s : S) : Wz (Res.opt o s) Q = wO o fun a => Q a s := by cases o <;> rfl
theorem wO_some {Q : α → Prop} (a : α) : wO (some a) Q = Q a := rfl
theorem wI_int {Q : Int → Prop} (a : Int) : wI (.int a) Q = Q a := rfl
theorem wB_t {A B : Prop} : wB true A B = A := by unfold wB; rw [if_pos rfl]
theorem wB_f {A B : Prop} : wB false A B = B := by unfold wB; rw [if_neg Bool.false_ne_true]
theorem wF_nx {A B : Prop} : wF .nx A B = A := rfl
theorem wF_rt {A B : Prop} (o : OV) : wF (.rt o) A B = B := rfl
theorem wF_bk {A B : Prop} : wF .bk A B = B := rfl
theorem wF_ct {A B : Prop} : wF .ct A B = B := rfl
theorem wV_sh {i : Nat} {s : S} {Q : OV → S → Prop} (v : PV) : wV (.sh v) i s Q = Q (.sh v) s := rfl
theorem wV_lst {i : Nat} {s : S} {Q : OV → S → Prop} (v : List PV) : wV (.lst v) i s Q = Q (.sh (.lst v)) (s.set i (.sh (.lst v))) := rfl
theorem wL_lst {Q : List PV → Prop} (v : List PV) : wL (.lst v) Q = Q v := rfl
theorem z_wLate_v {i : Nat} {fa : S → Res OV} {k : S → Res α} {s : S} {Q : PV × α → S → Prop} : wLate (some i) fa k s Q = wO (getV s i) fun _ => Wz (k s) fun y s' => wO (getV s' i) fun x => Q (x, y) s' := rfl
theorem z_wLate_n {fa : S → Res OV} {k : S → Res α} {s : S} {Q : PV × α → S → Prop} : wLate none fa k s Q = Wz (fa s) fun o s1 => wO o.pv fun x => Wz (k s1) fun y s2 => Q (x, y) s2 := rfl
theorem wPeek_v {i : Nat} {fa : S → Res OV} {s : S} {Q : PV → S → Prop} : wPeek (some i) fa s Q = wO (getV s i) fun x => Q x s := rfl
theorem z_wPeek_n {fa : S → Res OV} {s : S} {Q : PV → S → Prop} : wPeek none fa s Q = Wz (fa s) fun o s1 => wO o.pv fun x => Q x s1 := rfl
theorem z_wArg_v {i : Nat} {fa : S → Res OV} {b : Bool} {s : S} {Q : CA → S → Prop} : wArg (some i) fa b s Q = wB ((getO s i).own && b) (Q (.s i) s) (Wz (fa s) fun o s1 => wO o.pv fun x => Q (.v x) s1) := rfl
theorem z_wArg_n {fa : S → Res OV} {b : Bool} {s : S} {Q : CA → S → Prop} : wArg none fa b s Q = Wz (fa s) fun o s1 => wO o.pv fun x => Q (.v x) s1 := rfl
theorem z_w_late (a : Ex) (fa : S → Res OV) (k : S → Res α) (s : S) (Q : PV × α → S → Prop) : Wz (late a fa k s) Q = wLate (isV a) fa k s Q := by
  have n : Wz ((frzR (fa s)).bind fun x s1 => (k s1).bind fun y s2 => (.ok (x, y) s2 : Res (PV × α))) Q = wLate none fa k s Q := by
    simp only [z_wp_bind, frzR, z_wp_opt, z_wLate_n]
    rfl
  cases a <;> first | exact n | skip
  show Wz ((Res.opt (getV s _) s).bind fun _ s0 => (k s0).bind fun y s' => (Res.opt (getV s' _) s').bind fun x s'' => (.ok (x, y) s'' : Res (PV × α))) Q = _
  simp only [z_wp_bind, z_wp_opt, isV, z_wLate_v]
  rfl
theorem z_w_peek (a : Ex) (fa : S → Res OV) (s : S) (Q : PV → S → Prop) : Wz (peek a fa s) Q = wPeek (isV a) fa s Q := by
  have n : Wz (frzR (fa s)) Q = wPeek none fa s Q := by
    simp only [z_wp_bind, frzR, z_wp_opt, z_wPeek_n]
  cases a <;> first | exact n | skip
  show Wz (Res.opt (getV s _) s) Q = _
  simp only [z_wp_opt, isV, wPeek_v]
theorem z_w_arg (a : Ex) (fa : S → Res OV) (b : Bool) (s : S) (Q : CA → S → Prop) : Wz (argR a fa b s) Q = wArg (isV a) fa b s Q := by
  have n : Wz ((fa s).bind fun o s' => (Res.opt o.pv s').bind fun v s'' => (.ok (.v v) s'' : Res CA)) Q = Wz (fa s) fun o s1 => wO o.pv fun x => Q (.v x) s1 := by
    simp only [z_wp_bind, z_wp_opt, z_wp_ok]
  cases a <;> first | exact n | skip
  show Wz (if ((getO s _).own && b) = true then (.ok (.s _) s : Res CA) else _) Q = _
  simp only [isV, z_wArg_v]
  unfold wB
  split
  · rfl
  · exact n
theorem z_w_frz (r : Res OV) (Q : PV → S → Prop) : Wz (frzR r) Q = Wz r fun o s => wO o.pv fun v => Q v s := by
  simp only [frzR, z_wp_bind, z_wp_opt]
theorem z_w_intR (r : Res PV) (Q : Int → S → Prop) : Wz (intR r) Q = Wz r fun v s => wI v fun i => Q i s := by
  cases r with
  | ok v s => cases v <;> rfl
  | _ => rfl
end
theorem z_wp_imp {α : Type} {Q : α → S → Prop} {r : Res α} {Q' : α → S → Prop} (h : Wz r Q) (k : ∀ a s, Q a s → Q' a s) : Wz r Q' := by
  cases r with
  | ok a s => exact k a s h
  | _ => exact h
theorem z_wp_exists {α : Type} {Q : α → S → Prop} {r : Res α} (h : Wz r Q) : ∃ a s, r = .ok a s ∧ Q a s := by
  cases r with
  | ok a s => exact ⟨a, s, rfl, h⟩
  | _ => exact h.elim
theorem z_wp_eq {α : Type} {r : Res α} {x : α} {t : S} (h : Wz r fun a s => a = x ∧ s = t) : r = .ok x t := by
  cases r with
  | ok a s =>
    obtain ⟨h1, h2⟩ := (show a = x ∧ s = t from h)
    rw [h1, h2]
  | _ => exact h.elim
section
variable {Γ : Env} {s : S} {Q : OV → S → Prop} {QB : Bool → S → Prop} {QF : Fl → S → Prop} {cs : List Nat} {a b c : Ex}
/-! values -/
theorem z_we_int (i : Int) : Wz (ev Γ (.int i) s) Q = Q (.sh (.int i)) s := rfl
theorem z_we_bl (i : Bool) : Wz (ev Γ (.bl i) s) Q = Q (.sh (.bl i)) s := rfl
theorem z_we_non : Wz (ev Γ .non s) Q = Q (.sh .non) s := rfl
theorem z_we_str (i : Tx) : Wz (ev Γ (.str i) s) Q = Q (.sh (.str i)) s := rfl
theorem z_we_var (i : Nat) : Wz (ev Γ (.var i) s) Q = wV (getO s i) i s Q := by
  show Wz ((Res.opt (getV s i) s).bind fun v s' => (.ok (.sh v) (if (getO s i).own then s'.set i (.sh v) else s') : Res OV)) Q = _
  unfold getV
  cases getO s i <;> rfl
theorem z_we_glb (i : Nat) : Wz (ev Γ (.glb i) s) Q = wO (Γ.glb i) fun v => Q (.sh v) s := by
  show Wz ((Res.opt (Γ.glb i) s).bind fun v s' => (.ok (.sh v) s' : Res OV)) Q = _
  simp only [z_wp_bind, z_wp_opt, z_wp_ok]
theorem z_we_tup (es : Exs) : Wz (ev Γ (.tup es) s) Q = Wz (evs Γ es s) fun vs s' => Q (.sh (.tup vs)) s' := z_wp_bind _ _
theorem z_we_lst (es : Exs) : Wz (ev Γ (.lst es) s) Q = Wz (evs Γ es s) fun vs s' => Q (.lst vs) s' := z_wp_bind _ _
theorem z_we_bin (o : BOp) : Wz (ev Γ (.bin o a b) s) Q = Wz (late a (ev Γ a) (peek b (ev Γ b)) s) fun p s' => wO (binop o p.1 p.2) fun x => Q x s' := by
  show Wz ((late a (ev Γ a) (peek b (ev Γ b)) s).bind fun p s' => Res.opt (binop o p.1 p.2) s') Q = _
  simp only [z_wp_bind, z_wp_opt]
theorem z_we_neg : Wz (ev Γ (.neg a) s) Q = Wz (ev Γ a s) fun o s' => wO o.pv fun v => wI v fun i => Q (.sh (.int (-i))) s' := by
  show Wz ((intR (frzR (ev Γ a s))).bind fun i s' => (.ok (.sh (.int (-i))) s' : Res OV)) Q = _
  simp only [z_wp_bind, z_w_intR, z_w_frz, z_wp_ok]
theorem z_we_cmp (o : COp) : Wz (ev Γ (.cmp o a b) s) Q = Wz (late a (ev Γ a) (peek b (ev Γ b)) s) fun p s' => wO (cmpop o p.1 p.2) fun x => Q (.sh (.bl x)) s' := by
  show Wz ((late a (ev Γ a) (peek b (ev Γ b)) s).bind fun p s' => boolR (Res.opt (cmpop o p.1 p.2) s')) Q = _
  simp only [z_wp_bind, boolR, z_wp_opt, z_wp_ok]
theorem z_we_isN (ng : Bool) : Wz (ev Γ (.isN ng a) s) Q = Wz (peek a (ev Γ a) s) fun v s' => Q (.sh (.bl (isNon v != ng))) s' := by
  show Wz ((peek a (ev Γ a) s).bind fun v s' => (.ok (.sh (.bl (match v with | .non => !ng | _ => ng))) s' : Res OV)) Q = _
  rw [z_wp_bind]
  congr 1
  funext v s'
  rw [z_wp_ok]
  cases v <;> cases ng <;> rfl
theorem z_we_inn (ng : Bool) : Wz (ev Γ (.inn ng a b) s) Q = Wz (late a (ev Γ a) (peek b (ev Γ b)) s) fun p s' => wO (inop p.1 p.2) fun x => Q (.sh (.bl (x != ng))) s' := by
  show Wz ((late a (ev Γ a) (peek b (ev Γ b)) s).bind fun p s' => boolR ((Res.opt (inop p.1 p.2) s').bind fun k s'' => .ok (k != ng) s'')) Q = _
  simp only [z_wp_bind, boolR, z_wp_opt, z_wp_ok]
theorem z_we_not : Wz (ev Γ (.not a) s) Q = Wz (peek a (ev Γ a) s) fun v s' => wO (truth v) fun k => Q (.sh (.bl (!k))) s' := by
  show Wz ((peek a (ev Γ a) s).bind fun v s' => (Res.opt (truth v) s').bind fun k s1 => (.ok (.sh (.bl (!k))) s1 : Res OV)) Q = _
  simp only [z_wp_bind, z_wp_opt, z_wp_ok]
theorem z_wp_b {α : Type} {Q : α → S → Prop} (k : Bool) (x y : Res α) : Wz (if k = true then x else y) Q = wB k (Wz x Q) (Wz y Q) := by
  cases k
  · rw [wB_f]; rfl
  · rw [wB_t]; rfl
theorem z_we_and : Wz (ev Γ (.and a b) s) Q = Wz (ev Γ a s) fun o s' => wO o.pv fun v => wO (truth v) fun k => wB k (Wz (ev Γ b s') Q) (Q (.sh v) s') := by
  show Wz ((frzR (ev Γ a s)).bind fun v s' => (Res.opt (truth v) s').bind fun k s'' => if k then ev Γ b s'' else .ok (.sh v) s'') Q = _
  simp only [z_wp_bind, z_w_frz, z_wp_opt, z_wp_b, z_wp_ok]
theorem z_we_or : Wz (ev Γ (.or a b) s) Q = Wz (ev Γ a s) fun o s' => wO o.pv fun v => wO (truth v) fun k => wB k (Q (.sh v) s') (Wz (ev Γ b s') Q) := by
  show Wz ((frzR (ev Γ a s)).bind fun v s' => (Res.opt (truth v) s').bind fun k s'' => if k then .ok (.sh v) s'' else ev Γ b s'') Q = _
  simp only [z_wp_bind, z_w_frz, z_wp_opt, z_wp_b, z_wp_ok]
theorem z_we_ite : Wz (ev Γ (.ite c a b) s) Q = Wz (te Γ c s) fun k s' => wB k (Wz (ev Γ a s') Q) (Wz (ev Γ b s') Q) := by
  show Wz ((te Γ c s).bind fun k s' => if k then ev Γ a s' else ev Γ b s') Q = _
  simp only [z_wp_bind, z_wp_b]
theorem z_we_ix : Wz (ev Γ (.ix a b) s) Q = Wz (late a (ev Γ a) (fun s' => frzR (ev Γ b s')) s) fun p s' => wO (index p.1 p.2) fun x => Q (.sh x) s' := by
  show Wz ((late a (ev Γ a) (fun s' => frzR (ev Γ b s')) s).bind fun p s' => valR (Res.opt (index p.1 p.2) s')) Q = _
  simp only [z_wp_bind, valR, z_wp_opt, z_wp_ok]
theorem z_we_sl (lo hi : Opt) : Wz (ev Γ (.sl a lo hi) s) Q = Wz (late a (ev Γ a) (fun s' => (evO Γ lo s').bind fun i s1 => (evO Γ hi s1).bind fun j s2 => .ok (i, j) s2) s) fun p s' => wO (slice p.1 p.2.1 p.2.2) fun x => Q x s' := by
  show Wz ((late a (ev Γ a) (fun s' => (evO Γ lo s').bind fun i s1 => (evO Γ hi s1).bind fun j s2 => .ok (i, j) s2) s).bind fun p s' => Res.opt (slice p.1 p.2.1 p.2.2) s') Q = _
  simp only [z_wp_bind, z_wp_opt]
theorem z_we_rev : Wz (ev Γ (.rev a) s) Q = Wz (peek a (ev Γ a) s) fun v s' => wO (reversed v) fun x => Q x s' := by
  show Wz ((peek a (ev Γ a) s).bind fun v s' => Res.opt (reversed v) s') Q = _
  simp only [z_wp_bind, z_wp_opt]
/-- a call: its arguments, then the def's own run -/
def wCall (Γ : Env) (f : Nat) (cas : List CA) (s1 : S) (q : Option (List OV × S)) (Q : OV → S → Prop) : Prop := wO q fun q => Wz (Γ.rho f q.1) fun v o => Q v (putA cas o s1 q.2)
theorem z_wCall_some (f : Nat) (cas : List CA) (s1 s2 : S) (os : List OV) : wCall Γ f cas s1 (some (os, s2)) Q = Wz (Γ.rho f os) fun v o => Q v (putA cas o s1 s2) := rfl
theorem z_we_call (f : Nat) (es : Exs) : Wz (ev Γ (.call f es) s) Q = Wz (evA Γ (Γ.cst f) 0 es s) fun cas s1 => wCall Γ f cas s1 (takeA cas s1) Q := by
  show Wz ((evA Γ (Γ.cst f) 0 es s).bind fun cas s1 => match takeA cas s1 with
    | none => .bad
    | some q => callR (Γ.rho f q.1) cas s1 q.2) Q = _
  rw [z_wp_bind]
  congr 1
  funext cas s1
  cases takeA cas s1 with
  | none => rfl
  | some q =>
    obtain ⟨os, s2⟩ := q
    show Wz (callR (Γ.rho f os) cas s1 s2) Q = Wz (Γ.rho f os) fun v o => Q v (putA cas o s1 s2)
    cases Γ.rho f os <;> rfl
theorem z_we_bi (f : Bi) (es : Exs) : Wz (ev Γ (.bi f es) s) Q = Wz (evP Γ es s) fun vs s' => wO (bi f vs) fun x => Q x s' := by
  show Wz ((evP Γ es s).bind fun vs s' => Res.opt (bi f vs) s') Q = _
  simp only [z_wp_bind, z_wp_opt]
theorem z_we_isi (tys : List Ty) (tp : Bool) : Wz (ev Γ (.isi a tys tp) s) Q = Wz (peek a (ev Γ a) s) fun v s' => Q (.sh (.bl (tys.any fun t => isTy t v))) s' := by
  show Wz ((peek a (ev Γ a) s).bind fun v s' => (.ok (.sh (.bl (tys.any fun t => isTy t v))) s' : Res OV)) Q = _
  simp only [z_wp_bind, z_wp_ok]
/-! several -/
theorem z_ws_nil {Q : List PV → S → Prop} : Wz (evs Γ .nil s) Q = Q [] s := rfl
theorem z_ws_cons {Q : List PV → S → Prop} (es : Exs) : Wz (evs Γ (.cons a es) s) Q = Wz (ev Γ a s) fun o s' => wO o.pv fun v => Wz (evs Γ es s') fun vs s'' => Q (v :: vs) s'' := by
  show Wz ((frzR (ev Γ a s)).bind fun v s' => (evs Γ es s').bind fun vs s'' => (.ok (v :: vs) s'' : Res (List PV))) Q = _
  simp only [z_wp_bind, z_w_frz, z_wp_ok]
theorem z_wP_one {Q : List PV → S → Prop} : Wz (evP Γ (.cons a .nil) s) Q = Wz (peek a (ev Γ a) s) fun v s' => Q [v] s' := z_wp_bind _ _
theorem z_wP_more {Q : List PV → S → Prop} (es : Exs) : Wz (evP Γ (.cons a (.cons b es)) s) Q = Wz (ev Γ a s) fun o s' => wO o.pv fun v => Wz (evs Γ (.cons b es) s') fun vs s'' => Q (v :: vs) s'' := by
  show Wz ((frzR (ev Γ a s)).bind fun v s' => (evs Γ (.cons b es) s').bind fun vs s'' => (.ok (v :: vs) s'' : Res (List PV))) Q = _
  simp only [z_wp_bind, z_w_frz, z_wp_ok]
theorem z_wA_nil {Q : List CA → S → Prop} (k : Nat) : Wz (evA Γ cs k .nil s) Q = Q [] s := rfl
theorem z_wA_cons {Q : List CA → S → Prop} (k : Nat) (es : Exs) : Wz (evA Γ cs k (.cons a es) s) Q = Wz (argR a (ev Γ a) (cs.contains k) s) fun c s' => Wz (evA Γ cs (k + 1) es s') fun r s'' => Q (c :: r) s'' := by
  show Wz ((argR a (ev Γ a) (cs.contains k) s).bind fun c s' => (evA Γ cs (k + 1) es s').bind fun r s'' => (.ok (c :: r) s'' : Res (List CA))) Q = _
  simp only [z_wp_bind, z_wp_ok]
theorem z_wo_no {Q : Option Int → S → Prop} : Wz (evO Γ .no s) Q = Q none s := rfl
theorem z_wo_yes {Q : Option Int → S → Prop} : Wz (evO Γ (.yes a) s) Q = Wz (ev Γ a s) fun o s' => wO o.pv fun v => wI v fun i => Q (some i) s' := by
  show Wz ((intR (frzR (ev Γ a s))).bind fun i s' => (.ok (some i) s' : Res (Option Int))) Q = _
  simp only [z_wp_bind, z_w_intR, z_w_frz, z_wp_ok]
/-! tests -/
theorem z_wt_and : Wz (te Γ (.and a b) s) QB = Wz (te Γ a s) fun k s' => wB k (Wz (te Γ b s') QB) (QB false s') := by
  show Wz ((te Γ a s).bind fun k s' => if k then te Γ b s' else .ok false s') QB = _
  simp only [z_wp_bind, z_wp_b, z_wp_ok]
theorem z_wt_or : Wz (te Γ (.or a b) s) QB = Wz (te Γ a s) fun k s' => wB k (QB true s') (Wz (te Γ b s') QB) := by
  show Wz ((te Γ a s).bind fun k s' => if k then .ok true s' else te Γ b s') QB = _
  simp only [z_wp_bind, z_wp_b, z_wp_ok]
theorem z_wt_not : Wz (te Γ (.not a) s) QB = Wz (te Γ a s) fun k s' => QB (!k) s' := z_wp_bind _ _
theorem z_wt_var (i : Nat) : Wz (te Γ (.var i) s) QB = wO (getV s i) fun v => wO (truth v) fun k => QB k s := by
  show Wz ((Res.opt (getV s i) s).bind fun v s' => Res.opt (truth v) s') QB = _
  simp only [z_wp_bind, z_wp_opt]
theorem z_wt_cmp (o : COp) : Wz (te Γ (.cmp o a b) s) QB = Wz (late a (ev Γ a) (peek b (ev Γ b)) s) fun p s' => wO (cmpop o p.1 p.2) fun x => QB x s' := by
  show Wz ((late a (ev Γ a) (peek b (ev Γ b)) s).bind fun p s' => Res.opt (cmpop o p.1 p.2) s') QB = _
  simp only [z_wp_bind, z_wp_opt]
theorem z_wt_chn (o q : COp) : Wz (te Γ (.chn o q a b c) s) QB = Wz (ev Γ a s) fun x1 s1 => wO x1.pv fun x => Wz (ev Γ b s1) fun y1 s2 => wO y1.pv fun y => wO (cmpop o x y) fun k => wB k (Wz (ev Γ c s2) fun z1 s3 => wO z1.pv fun z => wO (cmpop q y z) fun k => QB k s3) (QB false s2) := by
  show Wz ((frzR (ev Γ a s)).bind fun x s1 => (frzR (ev Γ b s1)).bind fun y s2 => (Res.opt (cmpop o x y) s2).bind fun k s3 =>
      if k then (frzR (ev Γ c s3)).bind fun z s4 => Res.opt (cmpop q y z) s4 else .ok false s3) QB = _
  simp only [z_wp_bind, z_w_frz, z_wp_opt, z_wp_b, z_wp_ok]
theorem z_wt_isN (ng : Bool) : Wz (te Γ (.isN ng a) s) QB = Wz (peek a (ev Γ a) s) fun v s' => QB (isNon v != ng) s' := by
  show Wz ((peek a (ev Γ a) s).bind fun v s' => (.ok (match v with | .non => !ng | _ => ng) s' : Res Bool)) QB = _
  rw [z_wp_bind]
  congr 1
  funext v s'
  rw [z_wp_ok]
  cases v <;> cases ng <;> rfl
theorem z_wt_inn (ng : Bool) : Wz (te Γ (.inn ng a b) s) QB = Wz (late a (ev Γ a) (peek b (ev Γ b)) s) fun p s' => wO (inop p.1 p.2) fun x => QB (x != ng) s' := by
  show Wz ((late a (ev Γ a) (peek b (ev Γ b)) s).bind fun p s' => (Res.opt (inop p.1 p.2) s').bind fun k s'' => .ok (k != ng) s'') QB = _
  simp only [z_wp_bind, z_wp_opt, z_wp_ok]
theorem z_wt_call (f : Nat) (es : Exs) : Wz (te Γ (.call f es) s) QB = Wz (ev Γ (.call f es) s) fun o s' => wO o.pv fun v => wO (truth v) fun k => QB k s' := by
  rw [z_we_call]
  show Wz ((evA Γ (Γ.cst f) 0 es s).bind fun cas s1 => match takeA cas s1 with
    | none => .bad
    | some q => (frzR (callR (Γ.rho f q.1) cas s1 q.2)).bind fun v s2 => Res.opt (truth v) s2) QB = _
  rw [z_wp_bind]
  congr 1
  funext cas s1
  cases takeA cas s1 with
  | none => rfl
  | some q =>
    obtain ⟨os, s2⟩ := q
    show Wz ((frzR (callR (Γ.rho f os) cas s1 s2)).bind fun v s2 => Res.opt (truth v) s2) QB = _
    rw [z_wCall_some]
    simp only [z_wp_bind, z_w_frz, z_wp_opt]
    cases Γ.rho f os <;> rfl
theorem z_wt_bi (f : Bi) (es : Exs) : Wz (te Γ (.bi f es) s) QB = Wz (ev Γ (.bi f es) s) fun o s' => wO o.pv fun v => wO (truth v) fun k => QB k s' := by
  rw [z_we_bi]
  show Wz ((evP Γ es s).bind fun vs s' => (frzR (Res.opt (bi f vs) s')).bind fun v s1 => Res.opt (truth v) s1) QB = _
  simp only [z_wp_bind, z_w_frz, z_wp_opt]
theorem z_wt_ix : Wz (te Γ (.ix a b) s) QB = Wz (ev Γ (.ix a b) s) fun o s' => wO o.pv fun v => wO (truth v) fun k => QB k s' := by
  rw [z_we_ix]
  show Wz ((late a (ev Γ a) (fun s' => frzR (ev Γ b s')) s).bind fun p s' => (Res.opt (index p.1 p.2) s').bind fun v s1 => Res.opt (truth v) s1) QB = _
  simp only [z_wp_bind, z_wp_opt]
  rfl
theorem z_wt_isi (tys : List Ty) (tp : Bool) : Wz (te Γ (.isi a tys tp) s) QB = Wz (peek a (ev Γ a) s) fun v s' => QB (tys.any fun t => isTy t v) s' := by
  show Wz ((peek a (ev Γ a) s).bind fun v s' => (.ok (tys.any fun t => isTy t v) s' : Res Bool)) QB = _
  simp only [z_wp_bind, z_wp_ok]
/-! statements -/
theorem z_wx_nil : Wz (exs Γ cs .nil s) QF = QF .nx s := rfl
theorem z_wx_cons (st : St) (r : Sts) : Wz (exs Γ cs (.cons st r) s) QF = Wz (ex Γ cs st s) fun f s' => wF f (Wz (exs Γ cs r s') QF) (QF f s') := by
  show Wz ((ex Γ cs st s).bind fun f s' => match f with
    | .nx => exs Γ cs r s'
    | f => .ok f s') QF = _
  rw [z_wp_bind]
  congr 1
  funext f s'
  cases f <;> rfl
theorem z_wx_expr : Wz (ex Γ cs (.expr a) s) QF = Wz (ev Γ a s) fun o s' => wO o.pv fun _ => QF .nx s' := by
  show Wz ((frzR (ev Γ a s)).bind fun _ s' => (.ok .nx s' : Res Fl)) QF = _
  simp only [z_wp_bind, z_w_frz, z_wp_ok]
theorem z_wx_app (i : Nat) : Wz (ex Γ cs (.app i a) s) QF = wL (getO s i) fun _ => Wz (ev Γ a s) fun o s' => wO o.pv fun v => wL (getO s' i) fun xs => wB (decide (xs.length < big)) (QF .nx (s'.set i (.lst (xs ++ [v])))) False := by
  show Wz (match getO s i with
    | .lst _ => (frzR (ev Γ a s)).bind fun v s' => appR i v s'
    | _ => .bad) QF = _
  cases getO s i <;> first | rfl | skip
  show Wz ((frzR (ev Γ a s)).bind fun v s' => appR i v s') QF = Wz (ev Γ a s) _
  simp only [z_wp_bind, z_w_frz]
  congr 1
  funext o s'
  congr 1
  funext v
  unfold appR
  cases getO s' i <;> first | rfl | skip
  rename_i xs
  show Wz (if xs.length < big then (.ok .nx (s'.set i (.lst (xs ++ [v]))) : Res Fl) else .bad) QF = wB _ _ _
  unfold wB
  by_cases h : xs.length < big
  · rw [if_pos h, if_pos (decide_eq_true h)]; rfl
  · rw [if_neg h, if_neg (by simpa using h)]; rfl
theorem z_w_setV (i : Nat) (o : OV) : Wz (setV cs i o s) QF = wB (decide (i < s.length) && !cs.contains i) (QF .nx (s.set i o)) False := by
  unfold setV
  exact z_wp_b _ _ _
theorem z_wx_set (i : Nat) : Wz (ex Γ cs (.set (.v i) a) s) QF = Wz (ev Γ a s) fun o s' => wB (decide (i < s'.length) && !cs.contains i) (QF .nx (s'.set i o)) False := by
  show Wz ((ev Γ a s).bind fun o s' => setV cs i o s') QF = _
  simp only [z_wp_bind, z_w_setV]
theorem z_wx_setT (ts : Tgs) : Wz (ex Γ cs (.set (.t ts) a) s) QF = Wz (ev Γ a s) fun o s' => wO o.pv fun v => Wz (asgF cs (.t ts) v s') QF := by
  show Wz ((frzR (ev Γ a s)).bind fun v s' => asgF cs (.t ts) v s') QF = _
  simp only [z_wp_bind, z_w_frz]
theorem z_w_asgF (t : Tg) (v : PV) : Wz (asgF cs t v s) QF = wB (t.slots.all fun i => !cs.contains i) (wO (asg t v s) fun s' => QF .nx s') False := by
  unfold asgF
  rw [z_wp_b, z_wp_bind]
  unfold asgR
  cases asg t v s <;> rfl
theorem z_wx_par2 (i j : Nat) : Wz (ex Γ cs (.par2 i j a b) s) QF = Wz (ev Γ a s) fun x s1 => Wz (ev Γ b s1) fun y s2 => Wz (setV cs i x s2) fun _ s3 => Wz (setV cs j y s3) QF := by
  show Wz ((ev Γ a s).bind fun x s1 => (ev Γ b s1).bind fun y s2 => (setV cs i x s2).bind fun _ s3 => setV cs j y s3) QF = _
  simp only [z_wp_bind]
theorem z_wx_par3 (i j k : Nat) : Wz (ex Γ cs (.par3 i j k a b c) s) QF = Wz (ev Γ a s) fun x s1 => Wz (ev Γ b s1) fun y s2 => Wz (ev Γ c s2) fun z s3 => Wz (setV cs i x s3) fun _ s4 => Wz (setV cs j y s4) fun _ s5 => Wz (setV cs k z s5) QF := by
  show Wz ((ev Γ a s).bind fun x s1 => (ev Γ b s1).bind fun y s2 => (ev Γ c s2).bind fun z s3 =>
      (setV cs i x s3).bind fun _ s4 => (setV cs j y s4).bind fun _ s5 => setV cs k z s5) QF = _
  simp only [z_wp_bind]
theorem z_w_setIxR (i : Nat) (j v : PV) : Wz (setIxR i j v s) QF = wL (getO s i) fun xs => wI j fun k => wO (ixN xs.length k) fun n => QF .nx (s.set i (.lst (xs.set n v))) := by
  unfold setIxR
  cases getO s i <;> cases j <;> first | rfl | skip
  rename_i xs k
  show Wz (match ixN xs.length k with
    | some j => .ok .nx (s.set i (.lst (xs.set j v)))
    | none => .bad) QF = wO (ixN xs.length k) _
  cases ixN xs.length k <;> rfl
theorem z_wx_setIx (i : Nat) : Wz (ex Γ cs (.setIx i b a) s) QF = Wz (ev Γ a s) fun o s1 => wO o.pv fun v => wL (getO s1 i) fun _ => Wz (ev Γ b s1) fun o2 s2 => wO o2.pv fun j => Wz (setIxR i j v s2) QF := by
  show Wz ((frzR (ev Γ a s)).bind fun v s1 => match getO s1 i with
    | .lst _ => (frzR (ev Γ b s1)).bind fun j s2 => setIxR i j v s2
    | _ => .bad) QF = _
  simp only [z_wp_bind, z_w_frz]
  congr 1
  funext o s1
  congr 1
  funext v
  cases getO s1 i <;> first | rfl | skip
  show Wz ((frzR (ev Γ b s1)).bind fun j s2 => setIxR i j v s2) QF = Wz (ev Γ b s1) _
  simp only [z_wp_bind, z_w_frz]
theorem z_wx_aug (i : Nat) (o : BOp) : Wz (ex Γ cs (.aug i o a) s) QF = wO (getV s i) fun v => wI v fun x => Wz (ev Γ a s) fun w s1 => wO w.pv fun w => wI w fun y => wO (augop o x y) fun z => Wz (setV cs i (.sh (.int z)) s1) QF := by
  show Wz ((intR (Res.opt (getV s i) s)).bind fun x s0 => (intR (frzR (ev Γ a s0))).bind fun y s1 => (Res.opt (augop o x y) s1).bind fun z s2 => setV cs i (.sh (.int z)) s2) QF = _
  simp only [z_wp_bind, z_w_intR, z_wp_opt, z_w_frz]
theorem z_wx_augIx (i : Nat) (o : BOp) : Wz (ex Γ cs (.augIx i b o a) s) QF = wL (getO s i) fun _ => Wz (ev Γ b s) fun j s1 => wO j.pv fun j => wI j fun j => wO (idxO (getO s1 i) j) fun x => wI x fun x => Wz (ev Γ a s1) fun y s3 => wO y.pv fun y => wI y fun y => wO (augop o x y) fun z => Wz (setIxR i (.int j) (.int z) s3) QF := by
  show Wz (match getO s i with
    | .lst _ => (intR (frzR (ev Γ b s))).bind fun j s1 => (intR (Res.opt (idxO (getO s1 i) j) s1)).bind fun x s2 =>
      (intR (frzR (ev Γ a s2))).bind fun y s3 => (Res.opt (augop o x y) s3).bind fun z s4 => setIxR i (.int j) (.int z) s4
    | _ => .bad) QF = _
  cases getO s i <;> first | rfl | skip
  show Wz ((intR (frzR (ev Γ b s))).bind fun j s1 => (intR (Res.opt (idxO (getO s1 i) j) s1)).bind fun x s2 =>
      (intR (frzR (ev Γ a s2))).bind fun y s3 => (Res.opt (augop o x y) s3).bind fun z s4 => setIxR i (.int j) (.int z) s4) QF = Wz (ev Γ b s) _
  simp only [z_wp_bind, z_w_intR, z_wp_opt, z_w_frz]
theorem z_wx_ret : Wz (ex Γ cs (.ret a) s) QF = Wz (ev Γ a s) fun o s' => QF (.rt o) s' := z_wp_bind _ _
theorem z_wx_retN : Wz (ex Γ cs .retN s) QF = QF (.rt (.sh .non)) s := rfl
theorem z_wx_pass : Wz (ex Γ cs .pass s) QF = QF .nx s := rfl
theorem z_wx_brk : Wz (ex Γ cs .brk s) QF = QF .bk s := rfl
theorem z_wx_cont : Wz (ex Γ cs .cont s) QF = QF .ct s := rfl
theorem z_wx_ifs (x y : Sts) : Wz (ex Γ cs (.ifs c x y) s) QF = Wz (te Γ c s) fun k s' => wB k (Wz (exs Γ cs x s') QF) (Wz (exs Γ cs y s') QF) := by
  show Wz ((te Γ c s).bind fun k s' => if k then exs Γ cs x s' else exs Γ cs y s') QF = _
  simp only [z_wp_bind, z_wp_b]
end
theorem pv_sh (v : PV) : OV.pv (.sh v) = some v := rfl
theorem pv_lst (v : List PV) : OV.pv (.lst v) = some (.lst v) := rfl
theorem own_sh (v : PV) : OV.own (.sh v) = false := rfl
theorem own_lst (v : List PV) : OV.own (.lst v) = true := rfl
theorem gv_zero (o : OV) (s : S) : getV (o :: s) 0 = o.pv := rfl
theorem gv_succ (o : OV) (s : S) (n : Nat) : getV (o :: s) (n + 1) = getV s n := rfl
theorem isV_var (i : Nat) : isV (.var i) = some i := rfl
theorem truth_bl (b : Bool) : truth (.bl b) = some b := rfl
theorem truth_int (i : Int) : truth (.int i) = some (i != 0) := rfl
theorem c_lt (a b : Int) : cmpop .lt (.int a) (.int b) = some (decide (a < b)) := rfl
theorem c_le (a b : Int) : cmpop .le (.int a) (.int b) = some (decide (a ≤ b)) := rfl
theorem c_gt (a b : Int) : cmpop .gt (.int a) (.int b) = some (decide (b < a)) := rfl
theorem c_ge (a b : Int) : cmpop .ge (.int a) (.int b) = some (decide (b ≤ a)) := rfl
theorem c_eq (a b : Int) : cmpop .eq (.int a) (.int b) = some (a == b) := rfl
theorem c_ne (a b : Int) : cmpop .ne (.int a) (.int b) = some (!(a == b)) := rfl
theorem o_add (a b : Int) : binop .add (.int a) (.int b) = some (.sh (.int (a + b))) := rfl
theorem o_sub (a b : Int) : binop .sub (.int a) (.int b) = some (.sh (.int (a - b))) := rfl
theorem len_lst (xs : List PV) : bi .len [.lst xs] = some (.sh (.int xs.length)) := rfl
theorem len_tup (xs : List PV) : bi .len [.tup xs] = some (.sh (.int xs.length)) := rfl
theorem get_zero (o : OV) (s : S) : getO (o :: s) 0 = o := rfl
theorem get_succ (o : OV) (s : S) (n : Nat) : getO (o :: s) (n + 1) = getO s n := rfl
theorem set_zero (o p : OV) (s : S) : List.set (o :: s) 0 p = p :: s := rfl
theorem set_succ (o p : OV) (s : S) (n : Nat) : List.set (o :: s) (n + 1) p = o :: List.set s n p := rfl
/-- a body that returns -/
theorem z_run_ret {Γ : Env} {fn : Fn} {args pad : List OV} {Q : OV → S → Prop} (hl : args.length = fn.np) (hp : args ++ List.replicate (fn.nm.length - fn.np) .emp = pad) (h : Wz (exs Γ fn.cst fn.body pad) (fun f s => match f with
    | .nx => Q (.sh .non) (outsOf fn s)
    | .rt o => Q o (outsOf fn s)
    | _ => False)) : Wz (runBody Γ fn args) Q := by
  subst hp
  unfold runBody
  rw [if_pos hl]
  cases hx : exs Γ fn.cst fn.body (args ++ List.replicate (fn.nm.length - fn.np) .emp) with
  | bad => rw [hx] at h; exact h
  | exc e s => rw [hx] at h; exact h
  | ok f s =>
    rw [hx] at h
    cases f <;> exact h
theorem tk_v (p : PV) (r : List CA) (s : S) : takeA (.v p :: r) s = (takeA r s).map fun q => (.sh p :: q.1, q.2) := rfl
theorem tk_n (s : S) : takeA [] s = some ([], s) := rfl
theorem tk_0 (xs : List PV) (r : List CA) (s : S) : takeA (.s 0 :: r) (.lst xs :: s) = (takeA r (.emp :: s)).map fun q => (.lst xs :: q.1, q.2) := rfl
theorem tk_1 (xs : List PV) (r : List CA) (a : OV) (s : S) : takeA (.s 1 :: r) (a :: .lst xs :: s) = (takeA r (a :: .emp :: s)).map fun q => (.lst xs :: q.1, q.2) := rfl
theorem pu_v (p : PV) (r : List CA) (o : OV) (os : List OV) (s0 s : S) : putA (.v p :: r) (o :: os) s0 s = putA r os s0 s := rfl
theorem pu_n (s0 s : S) : putA [] [] s0 s = s := rfl
theorem pu_0 (r : List CA) (o : OV) (os : List OV) (xs : List PV) (s0 s : S) : putA (.s 0 :: r) (o :: os) (.lst xs :: s0) s = putA r os (.lst xs :: s0) (s.set 0 o) := rfl
theorem pu_1 (r : List CA) (o a : OV) (os : List OV) (xs : List PV) (s0 s : S) : putA (.s 1 :: r) (o :: os) (a :: .lst xs :: s0) s = putA r os (a :: .lst xs :: s0) (s.set 1 o) := rfl
theorem o_mulL {a b : Int} (h : -(2 ^ 64) < a ∧ a < 2 ^ 64) : binop .mul (.int a) (.int b) = some (.sh (.int (a * b))) := if_pos (.inl h)
theorem o_mulR {a b : Int} (h : -(2 ^ 64) < b ∧ b < 2 ^ 64) : binop .mul (.int a) (.int b) = some (.sh (.int (a * b))) := if_pos (.inr h)
theorem o_mod {a b : Int} (h : 0 < b) : binop .mod (.int a) (.int b) = some (.sh (.int (a % b))) := if_pos h
theorem o_div {a b : Int} (h : 0 < b ∧ b < 1073741824) : binop .fdiv (.int a) (.int b) = some (.sh (.int (a / b))) := if_pos h
theorem o_pow {a b : Int} (h : 0 ≤ b ∧ b ≤ 1000000 ∧ a.natAbs < 2 ^ 64) : binop .pow (.int a) (.int b) = some (.sh (.int (a ^ b.toNat))) := if_pos h
theorem ix_lst {xs : List PV} {k : Int} {n : Nat} {v : PV} (h : ixN xs.length k = some n) (h2 : xs[n]? = some v) : index (.lst xs) (.int k) = some v := by
  show (ixN xs.length k).bind _ = _
  rw [h]; exact h2
theorem ixN_nn {n : Nat} {k : Int} (h : 0 ≤ k) (h2 : k < n) : ixN n k = some k.toNat := by unfold ixN; rw [if_pos h, if_pos h2]
end PF
set_option Elab.async false
set_option linter.all false
set_option maxRecDepth 100000
/-! PF, part t: loops, comprehensions, step by step. -/
namespace PF
section
variable {Γ : Env} {s : S} {Q : OV → S → Prop} {QF : Fl → S → Prop} {QS : List PV × Lk → S → Prop} {cs : List Nat} {a b c : Ex}
def wOpen (m : Option Nat) (fa : S → Res OV) (s : S) (Q : PV × Lk → S → Prop) : Prop := match m with
  | some i => wO (getV s i) fun v => Q (v, if (getO s i).own then some (i, getO s i) else none) s
  | none => Wz (fa s) fun o s1 => wO o.pv fun v => Q (v, none) s1
theorem wOpen_v {i : Nat} {fa : S → Res OV} {Q : PV × Lk → S → Prop} : wOpen (some i) fa s Q = wO (getV s i) fun v => Q (v, if (getO s i).own then some (i, getO s i) else none) s := rfl
theorem z_wOpen_n {fa : S → Res OV} {Q : PV × Lk → S → Prop} : wOpen none fa s Q = Wz (fa s) fun o s1 => wO o.pv fun v => Q (v, none) s1 := rfl
theorem z_w_open (a : Ex) (fa : S → Res OV) (Q : PV × Lk → S → Prop) : Wz (openSeq a fa s) Q = wOpen (isV a) fa s Q := by
  have n : Wz ((frzR (fa s)).bind fun v s' => (.ok (v, none) s' : Res (PV × Lk))) Q = Wz (fa s) fun o s1 => wO o.pv fun v => Q (v, none) s1 := by
    simp only [z_wp_bind, z_w_frz, z_wp_ok]
  cases a <;> first | exact n | skip
  show Wz ((Res.opt (getV s _) s).bind fun v s' => (.ok (v, if (getO s _).own then some (_, getO s _) else none) s' : Res (PV × Lk))) Q = _
  simp only [z_wp_bind, z_wp_opt, z_wp_ok, isV, wOpen_v]
theorem z_wr_seq : Wz (srcs Γ (.seq a) s) QS = Wz (openSeq a (ev Γ a) s) fun p s' => wO (items p.1) fun xs => QS (xs, p.2) s' := by
  show Wz ((openSeq a (ev Γ a) s).bind fun p s' => (Res.opt (items p.1) s').bind fun xs s'' => (.ok (xs, p.2) s'' : Res (List PV × Lk))) QS = _
  simp only [z_wp_bind, z_wp_opt, z_wp_ok]
theorem z_wr_enum : Wz (srcs Γ (.enum a) s) QS = Wz (openSeq a (ev Γ a) s) fun p s' => wO (items p.1) fun xs => QS (enumL 0 xs, p.2) s' := by
  show Wz ((openSeq a (ev Γ a) s).bind fun p s' => (Res.opt (items p.1) s').bind fun xs s'' => (.ok (enumL 0 xs, p.2) s'' : Res (List PV × Lk))) QS = _
  simp only [z_wp_bind, z_wp_opt, z_wp_ok]
theorem z_wr_rng : Wz (srcs Γ (.rng a) s) QS = Wz (ev Γ a s) fun o s' => wO o.pv fun v => wI v fun n => wB (rngOk 0 n) (QS (rngL 0 n, none) s') False := by
  show Wz ((intR (frzR (ev Γ a s))).bind fun n s' => if rngOk 0 n then .ok (rngL 0 n, none) s' else .bad) QS = _
  simp only [z_wp_bind, z_w_intR, z_w_frz, z_wp_b, z_wp_ok]
  rfl
theorem z_wr_rng2 : Wz (srcs Γ (.rng2 a b) s) QS = Wz (ev Γ a s) fun o s' => wO o.pv fun v => wI v fun m => Wz (ev Γ b s') fun o2 s2 => wO o2.pv fun v => wI v fun n => wB (rngOk m n) (QS (rngL m n, none) s2) False := by
  show Wz ((intR (frzR (ev Γ a s))).bind fun m s1 => (intR (frzR (ev Γ b s1))).bind fun n s' => if rngOk m n then .ok (rngL m n, none) s' else .bad) QS = _
  simp only [z_wp_bind, z_w_intR, z_w_frz, z_wp_b, z_wp_ok]
  rfl
theorem z_w_unlock (l : Lk) (r : Res Fl) : Wz (unlockR l r) QF = Wz r fun f s => QF f (unlock l s) := by cases r <;> rfl
/-- the turn of a for -/
def turnF (Γ : Env) (cs : List Nat) (t : Tg) (b : Sts) (x : PV) (st : S) : Res Fl := (asgF cs t x st).bind fun _ st' => exs Γ cs b st'
theorem z_wx_for (t : Tg) (src : Src) (b : Sts) : Wz (ex Γ cs (.for_ t src b) s) QF = Wz (srcs Γ src s) fun p s1 => Wz (forL (turnF Γ (lockCs p.2 cs) t b) p.1 (lockO p.2 s1)) fun f s => QF f (unlock p.2 s) := by
  show Wz ((srcs Γ src s).bind fun p s1 => unlockR p.2 (forL (turnF Γ (lockCs p.2 cs) t b) p.1 (lockO p.2 s1))) QF = _
  simp only [z_wp_bind, z_w_unlock]
theorem z_w_turn (t : Tg) (b : Sts) (x : PV) : Wz (turnF Γ cs t b x s) QF = wB (t.slots.all fun i => !cs.contains i) (wO (asg t x s) fun s' => Wz (exs Γ cs b s') QF) False := by
  unfold turnF
  rw [z_wp_bind, z_w_asgF]
/-- a for, by what stands at each turn -/
theorem z_wp_forL {turn : PV → S → Res Fl} {xs : List PV} (I : Nat → S → Prop) (h0 : I 0 s) (hd : ∀ s, I xs.length s → QF .nx s)
    (hs : ∀ i x s, xs[i]? = some x → I i s → Wz (turn x s) fun f s' => match f with
      | .nx => I (i + 1) s'
      | .ct => I (i + 1) s'
      | .bk => QF .nx s'
      | .rt o => QF (.rt o) s') : Wz (forL turn xs s) QF := by
  have go : ∀ (l : List PV) (k : Nat) (s : S), xs.drop k = l → k ≤ xs.length → I k s → Wz (forL turn l s) QF := by
    intro l
    induction l with
    | nil =>
      intro k s e hle hk
      refine hd s ?_
      have hl : xs.length ≤ k := List.drop_eq_nil_iff.mp e
      have h : k = xs.length := by omega
      rw [← h]; exact hk
    | cons x l ih =>
      intro k s e hle hk
      have hx : xs[k]? = some x := by
        have := congrArg (fun z => z[0]?) e
        simpa using this
      show Wz ((turn x s).bind fun f s' => match f with
        | .nx => forL turn l s'
        | .ct => forL turn l s'
        | .bk => .ok .nx s'
        | .rt o => .ok (.rt o) s') QF
      rw [z_wp_bind]
      refine z_wp_imp (hs k x s hx hk) fun f s' hf => ?_
      have e2 : xs.drop (k + 1) = l := by
        have := congrArg List.tail e
        simpa [List.tail_drop] using this
      have hlt : k < xs.length := (List.getElem?_eq_some_iff.mp hx).1
      cases f with
      | nx => exact ih (k + 1) s' e2 hlt hf
      | ct => exact ih (k + 1) s' e2 hlt hf
      | bk => exact hf
      | rt o => exact hf
  exact go xs 0 s (List.drop_zero) (Nat.zero_le _) h0
/-- the turn of a comprehension -/
def bodyC (Γ : Env) (elt : Ex) (tg : Tg) (x : PV) (st : S) : Res (Option PV) := (asgR tg x st).bind fun _ st' => (frzR (ev Γ elt st')).bind fun y st2 => .ok (some y) st2
theorem z_we_comp (elt : Ex) (tg : Tg) (src : Src) (own : List Nat) : Wz (ev Γ (.comp elt tg src own) s) Q = Wz (srcs Γ src s) fun p s1 => wB (plainAt s1 own && decide (p.1.length ≤ big)) (Wz (compL own (bodyC Γ elt tg) p.1 [] (wipeS (lockO p.2 s1) own)) fun ys s2 => Q (.lst ys) (unlock p.2 (back s1 own s2))) False := by
  show Wz (compR own (bodyC Γ elt tg) (srcs Γ src s)) Q = _
  unfold compR
  simp only [z_wp_bind, z_wp_b, z_wp_ok]
  rfl
theorem z_w_bodyC {QC : Option PV → S → Prop} (elt : Ex) (tg : Tg) (x : PV) : Wz (bodyC Γ elt tg x s) QC = wO (asg tg x s) fun s' => Wz (ev Γ elt s') fun o s2 => wO o.pv fun y => QC (some y) s2 := by
  unfold bodyC asgR
  cases asg tg x s with
  | none => rfl
  | some s' =>
    rw [wO_some, z_wp_bind, z_wp_ok]
    simp only [z_wp_bind, z_w_frz, z_wp_ok]
theorem z_wp_compL {own : List Nat} {body : PV → S → Res (Option PV)} {xs : List PV} {QL : List PV → S → Prop} (I : Nat → List PV → S → Prop) (h0 : I 0 [] s) (hd : ∀ ys s, I xs.length ys s → QL ys s)
    (hs : ∀ i x acc s, xs[i]? = some x → I i acc s → Wz (body x (wipeS s own)) fun y s' => match y with
      | some y => I (i + 1) (acc ++ [y]) s'
      | none => I (i + 1) acc s') : Wz (compL own body xs [] s) QL := by
  have go : ∀ (l : List PV) (k : Nat) (acc : List PV) (s : S), xs.drop k = l → k ≤ xs.length → I k acc s → Wz (compL own body l acc s) QL := by
    intro l
    induction l with
    | nil =>
      intro k acc s e hle hk
      refine hd acc s ?_
      have hl : xs.length ≤ k := List.drop_eq_nil_iff.mp e
      have h : k = xs.length := by omega
      rw [← h]; exact hk
    | cons x l ih =>
      intro k acc s e hle hk
      have hx : xs[k]? = some x := by
        have := congrArg (fun z => z[0]?) e
        simpa using this
      have e2 : xs.drop (k + 1) = l := by
        have := congrArg List.tail e
        simpa [List.tail_drop] using this
      have hlt : k < xs.length := (List.getElem?_eq_some_iff.mp hx).1
      have h := hs k x acc s hx hk
      unfold compL
      cases hb : body x (wipeS s own) with
      | bad => rw [hb] at h; exact h
      | exc e s' => rw [hb] at h; exact h
      | ok y s' =>
        rw [hb] at h
        cases y with
        | none => exact ih (k + 1) acc s' e2 hlt h
        | some y => exact ih (k + 1) (acc ++ [y]) s' e2 hlt h
  exact go xs 0 [] s (List.drop_zero) (Nat.zero_le _) h0
end
theorem lockCs_n (cs : List Nat) : lockCs none cs = cs := rfl
theorem lockO_n (s : S) : lockO none s = s := rfl
theorem unlock_n (s : S) : unlock none s = s := rfl
theorem lockCs_s (cs : List Nat) (i : Nat) (o : OV) : lockCs (some (i, o)) cs = i :: cs := rfl
theorem lockO_s (s : S) (i : Nat) (o : OV) : lockO (some (i, o)) s = s.set i .emp := rfl
theorem unlock_s (s : S) (i : Nat) (o : OV) : unlock (some (i, o)) s = s.set i o := rfl
theorem slots_v (i : Nat) : Tg.slots (.v i) = [i] := rfl
theorem slots_t (ts : Tgs) : Tg.slots (.t ts) = ts.slots := rfl
theorem slots_n : Tgs.slots .nil = [] := rfl
theorem slots_c (t : Tg) (ts : Tgs) : Tgs.slots (.cons t ts) = t.slots ++ ts.slots := rfl
theorem asg_v {i : Nat} {s : S} (v : PV) (h : i < s.length) : asg (.v i) v s = some (s.set i (.sh v)) := if_pos h
theorem asg_t (ts : Tgs) (vs : List PV) (s : S) : asg (.t ts) (.tup vs) s = asgs ts vs s := rfl
theorem asgs_n (s : S) : asgs .nil [] s = some s := rfl
theorem asgs_c (t : Tg) (ts : Tgs) (v : PV) (vs : List PV) (s : S) : asgs (.cons t ts) (v :: vs) s = (asg t v s).bind fun s' => asgs ts vs s' := rfl
theorem asg_v' (i : Nat) (s : S) (v : PV) : asg (.v i) v s = if i < s.length then some (s.set i (.sh v)) else none := rfl
end PF
set_option Elab.async false
set_option linter.all false
set_option maxRecDepth 100000
/-! PF, part u: the step rules again, for a closed form that no defeq check opens. -/
namespace PF
/-- it ends well, and so -/
structure Wp {α : Type} (r : Res α) (Q : α → S → Prop) : Prop where
  out : Wz r Q
theorem wp_z : @Wp = @Wz := by
  funext α r Q
  exact propext ⟨fun h => h.out, fun h => ⟨h⟩⟩
section
variable {α β : Type}
theorem wp_ok {Q : α → S → Prop} (a : α) (s : S) : Wp (.ok a s) Q = Q a s := by
  rw [wp_z]
  exact z_wp_ok ..
theorem wp_bind {Q : α → S → Prop} (r : Res β) (k : β → S → Res α) : Wp (r.bind k) Q = Wp r (fun b s => Wp (k b s) Q) := by
  rw [wp_z]
  exact z_wp_bind ..
theorem wp_opt {Q : α → S → Prop} (o : Option α) (s : S) : Wp (Res.opt o s) Q = wO o fun a => Q a s := by
  rw [wp_z]
  exact z_wp_opt ..
theorem wLate_v {i : Nat} {fa : S → Res OV} {k : S → Res α} {s : S} {Q : PV × α → S → Prop} : wLate (some i) fa k s Q = wO (getV s i) fun _ => Wp (k s) fun y s' => wO (getV s' i) fun x => Q (x, y) s' := by
  rw [wp_z]
  exact z_wLate_v ..
theorem wLate_n {fa : S → Res OV} {k : S → Res α} {s : S} {Q : PV × α → S → Prop} : wLate none fa k s Q = Wp (fa s) fun o s1 => wO o.pv fun x => Wp (k s1) fun y s2 => Q (x, y) s2 := by
  rw [wp_z]
  exact z_wLate_n ..
theorem wPeek_n {fa : S → Res OV} {s : S} {Q : PV → S → Prop} : wPeek none fa s Q = Wp (fa s) fun o s1 => wO o.pv fun x => Q x s1 := by
  rw [wp_z]
  exact z_wPeek_n ..
theorem wArg_v {i : Nat} {fa : S → Res OV} {b : Bool} {s : S} {Q : CA → S → Prop} : wArg (some i) fa b s Q = wB ((getO s i).own && b) (Q (.s i) s) (Wp (fa s) fun o s1 => wO o.pv fun x => Q (.v x) s1) := by
  rw [wp_z]
  exact z_wArg_v ..
theorem wArg_n {fa : S → Res OV} {b : Bool} {s : S} {Q : CA → S → Prop} : wArg none fa b s Q = Wp (fa s) fun o s1 => wO o.pv fun x => Q (.v x) s1 := by
  rw [wp_z]
  exact z_wArg_n ..
theorem w_late (a : Ex) (fa : S → Res OV) (k : S → Res α) (s : S) (Q : PV × α → S → Prop) : Wp (late a fa k s) Q = wLate (isV a) fa k s Q := by
  rw [wp_z]
  exact z_w_late ..
theorem w_peek (a : Ex) (fa : S → Res OV) (s : S) (Q : PV → S → Prop) : Wp (peek a fa s) Q = wPeek (isV a) fa s Q := by
  rw [wp_z]
  exact z_w_peek ..
theorem w_arg (a : Ex) (fa : S → Res OV) (b : Bool) (s : S) (Q : CA → S → Prop) : Wp (argR a fa b s) Q = wArg (isV a) fa b s Q := by
  rw [wp_z]
  exact z_w_arg ..
theorem w_frz (r : Res OV) (Q : PV → S → Prop) : Wp (frzR r) Q = Wp r fun o s => wO o.pv fun v => Q v s := by
  rw [wp_z]
  exact z_w_frz ..
theorem w_intR (r : Res PV) (Q : Int → S → Prop) : Wp (intR r) Q = Wp r fun v s => wI v fun i => Q i s := by
  rw [wp_z]
  exact z_w_intR ..
end
theorem wp_imp {α : Type} {Q : α → S → Prop} {r : Res α} {Q' : α → S → Prop} (h : Wp r Q) (k : ∀ a s, Q a s → Q' a s) : Wp r Q' := by
  simp only [wp_z] at *
  exact z_wp_imp h k
theorem wp_exists {α : Type} {Q : α → S → Prop} {r : Res α} (h : Wp r Q) : ∃ a s, r = .ok a s ∧ Q a s := by
  simp only [wp_z] at *
  exact z_wp_exists h
theorem wp_eq {α : Type} {r : Res α} {x : α} {t : S} (h : Wp r fun a s => a = x ∧ s = t) : r = .ok x t := by
  simp only [wp_z] at *
  exact z_wp_eq h
section
variable {Γ : Env} {s : S} {Q : OV → S → Prop} {QB : Bool → S → Prop} {QF : Fl → S → Prop} {cs : List Nat} {a b c : Ex}
theorem we_int (i : Int) : Wp (ev Γ (.int i) s) Q = Q (.sh (.int i)) s := by
  rw [wp_z]
  exact z_we_int ..
theorem we_bl (i : Bool) : Wp (ev Γ (.bl i) s) Q = Q (.sh (.bl i)) s := by
  rw [wp_z]
  exact z_we_bl ..
theorem we_non : Wp (ev Γ .non s) Q = Q (.sh .non) s := by
  rw [wp_z]
  exact z_we_non ..
theorem we_str (i : Tx) : Wp (ev Γ (.str i) s) Q = Q (.sh (.str i)) s := by
  rw [wp_z]
  exact z_we_str ..
theorem we_var (i : Nat) : Wp (ev Γ (.var i) s) Q = wV (getO s i) i s Q := by
  rw [wp_z]
  exact z_we_var ..
theorem we_glb (i : Nat) : Wp (ev Γ (.glb i) s) Q = wO (Γ.glb i) fun v => Q (.sh v) s := by
  rw [wp_z]
  exact z_we_glb ..
theorem we_tup (es : Exs) : Wp (ev Γ (.tup es) s) Q = Wp (evs Γ es s) fun vs s' => Q (.sh (.tup vs)) s' := by
  rw [wp_z]
  exact z_we_tup ..
theorem we_lst (es : Exs) : Wp (ev Γ (.lst es) s) Q = Wp (evs Γ es s) fun vs s' => Q (.lst vs) s' := by
  rw [wp_z]
  exact z_we_lst ..
theorem we_bin (o : BOp) : Wp (ev Γ (.bin o a b) s) Q = Wp (late a (ev Γ a) (peek b (ev Γ b)) s) fun p s' => wO (binop o p.1 p.2) fun x => Q x s' := by
  rw [wp_z]
  exact z_we_bin ..
theorem we_neg : Wp (ev Γ (.neg a) s) Q = Wp (ev Γ a s) fun o s' => wO o.pv fun v => wI v fun i => Q (.sh (.int (-i))) s' := by
  rw [wp_z]
  exact z_we_neg ..
theorem we_cmp (o : COp) : Wp (ev Γ (.cmp o a b) s) Q = Wp (late a (ev Γ a) (peek b (ev Γ b)) s) fun p s' => wO (cmpop o p.1 p.2) fun x => Q (.sh (.bl x)) s' := by
  rw [wp_z]
  exact z_we_cmp ..
theorem we_isN (ng : Bool) : Wp (ev Γ (.isN ng a) s) Q = Wp (peek a (ev Γ a) s) fun v s' => Q (.sh (.bl (isNon v != ng))) s' := by
  rw [wp_z]
  exact z_we_isN ..
theorem we_inn (ng : Bool) : Wp (ev Γ (.inn ng a b) s) Q = Wp (late a (ev Γ a) (peek b (ev Γ b)) s) fun p s' => wO (inop p.1 p.2) fun x => Q (.sh (.bl (x != ng))) s' := by
  rw [wp_z]
  exact z_we_inn ..
theorem we_not : Wp (ev Γ (.not a) s) Q = Wp (peek a (ev Γ a) s) fun v s' => wO (truth v) fun k => Q (.sh (.bl (!k))) s' := by
  rw [wp_z]
  exact z_we_not ..
theorem wp_b {α : Type} {Q : α → S → Prop} (k : Bool) (x y : Res α) : Wp (if k = true then x else y) Q = wB k (Wp x Q) (Wp y Q) := by
  rw [wp_z]
  exact z_wp_b ..
theorem we_and : Wp (ev Γ (.and a b) s) Q = Wp (ev Γ a s) fun o s' => wO o.pv fun v => wO (truth v) fun k => wB k (Wp (ev Γ b s') Q) (Q (.sh v) s') := by
  rw [wp_z]
  exact z_we_and ..
theorem we_or : Wp (ev Γ (.or a b) s) Q = Wp (ev Γ a s) fun o s' => wO o.pv fun v => wO (truth v) fun k => wB k (Q (.sh v) s') (Wp (ev Γ b s') Q) := by
  rw [wp_z]
  exact z_we_or ..
theorem we_ite : Wp (ev Γ (.ite c a b) s) Q = Wp (te Γ c s) fun k s' => wB k (Wp (ev Γ a s') Q) (Wp (ev Γ b s') Q) := by
  rw [wp_z]
  exact z_we_ite ..
theorem we_ix : Wp (ev Γ (.ix a b) s) Q = Wp (late a (ev Γ a) (fun s' => frzR (ev Γ b s')) s) fun p s' => wO (index p.1 p.2) fun x => Q (.sh x) s' := by
  rw [wp_z]
  exact z_we_ix ..
theorem we_sl (lo hi : Opt) : Wp (ev Γ (.sl a lo hi) s) Q = Wp (late a (ev Γ a) (fun s' => (evO Γ lo s').bind fun i s1 => (evO Γ hi s1).bind fun j s2 => .ok (i, j) s2) s) fun p s' => wO (slice p.1 p.2.1 p.2.2) fun x => Q x s' := by
  rw [wp_z]
  exact z_we_sl ..
theorem we_rev : Wp (ev Γ (.rev a) s) Q = Wp (peek a (ev Γ a) s) fun v s' => wO (reversed v) fun x => Q x s' := by
  rw [wp_z]
  exact z_we_rev ..
theorem wCall_some (f : Nat) (cas : List CA) (s1 s2 : S) (os : List OV) : wCall Γ f cas s1 (some (os, s2)) Q = Wp (Γ.rho f os) fun v o => Q v (putA cas o s1 s2) := by
  rw [wp_z]
  exact z_wCall_some ..
theorem we_call (f : Nat) (es : Exs) : Wp (ev Γ (.call f es) s) Q = Wp (evA Γ (Γ.cst f) 0 es s) fun cas s1 => wCall Γ f cas s1 (takeA cas s1) Q := by
  rw [wp_z]
  exact z_we_call ..
theorem we_bi (f : Bi) (es : Exs) : Wp (ev Γ (.bi f es) s) Q = Wp (evP Γ es s) fun vs s' => wO (bi f vs) fun x => Q x s' := by
  rw [wp_z]
  exact z_we_bi ..
theorem we_isi (tys : List Ty) (tp : Bool) : Wp (ev Γ (.isi a tys tp) s) Q = Wp (peek a (ev Γ a) s) fun v s' => Q (.sh (.bl (tys.any fun t => isTy t v))) s' := by
  rw [wp_z]
  exact z_we_isi ..
theorem ws_nil {Q : List PV → S → Prop} : Wp (evs Γ .nil s) Q = Q [] s := by
  rw [wp_z]
  exact z_ws_nil ..
theorem ws_cons {Q : List PV → S → Prop} (es : Exs) : Wp (evs Γ (.cons a es) s) Q = Wp (ev Γ a s) fun o s' => wO o.pv fun v => Wp (evs Γ es s') fun vs s'' => Q (v :: vs) s'' := by
  rw [wp_z]
  exact z_ws_cons ..
theorem wP_one {Q : List PV → S → Prop} : Wp (evP Γ (.cons a .nil) s) Q = Wp (peek a (ev Γ a) s) fun v s' => Q [v] s' := by
  rw [wp_z]
  exact z_wP_one ..
theorem wP_more {Q : List PV → S → Prop} (es : Exs) : Wp (evP Γ (.cons a (.cons b es)) s) Q = Wp (ev Γ a s) fun o s' => wO o.pv fun v => Wp (evs Γ (.cons b es) s') fun vs s'' => Q (v :: vs) s'' := by
  rw [wp_z]
  exact z_wP_more ..
theorem wA_nil {Q : List CA → S → Prop} (k : Nat) : Wp (evA Γ cs k .nil s) Q = Q [] s := by
  rw [wp_z]
  exact z_wA_nil ..
theorem wA_cons {Q : List CA → S → Prop} (k : Nat) (es : Exs) : Wp (evA Γ cs k (.cons a es) s) Q = Wp (argR a (ev Γ a) (cs.contains k) s) fun c s' => Wp (evA Γ cs (k + 1) es s') fun r s'' => Q (c :: r) s'' := by
  rw [wp_z]
  exact z_wA_cons ..
theorem wo_no {Q : Option Int → S → Prop} : Wp (evO Γ .no s) Q = Q none s := by
  rw [wp_z]
  exact z_wo_no ..
theorem wo_yes {Q : Option Int → S → Prop} : Wp (evO Γ (.yes a) s) Q = Wp (ev Γ a s) fun o s' => wO o.pv fun v => wI v fun i => Q (some i) s' := by
  rw [wp_z]
  exact z_wo_yes ..
theorem wt_and : Wp (te Γ (.and a b) s) QB = Wp (te Γ a s) fun k s' => wB k (Wp (te Γ b s') QB) (QB false s') := by
  rw [wp_z]
  exact z_wt_and ..
theorem wt_or : Wp (te Γ (.or a b) s) QB = Wp (te Γ a s) fun k s' => wB k (QB true s') (Wp (te Γ b s') QB) := by
  rw [wp_z]
  exact z_wt_or ..
theorem wt_not : Wp (te Γ (.not a) s) QB = Wp (te Γ a s) fun k s' => QB (!k) s' := by
  rw [wp_z]
  exact z_wt_not ..
theorem wt_var (i : Nat) : Wp (te Γ (.var i) s) QB = wO (getV s i) fun v => wO (truth v) fun k => QB k s := by
  rw [wp_z]
  exact z_wt_var ..
theorem wt_cmp (o : COp) : Wp (te Γ (.cmp o a b) s) QB = Wp (late a (ev Γ a) (peek b (ev Γ b)) s) fun p s' => wO (cmpop o p.1 p.2) fun x => QB x s' := by
  rw [wp_z]
  exact z_wt_cmp ..
theorem wt_chn (o q : COp) : Wp (te Γ (.chn o q a b c) s) QB = Wp (ev Γ a s) fun x1 s1 => wO x1.pv fun x => Wp (ev Γ b s1) fun y1 s2 => wO y1.pv fun y => wO (cmpop o x y) fun k => wB k (Wp (ev Γ c s2) fun z1 s3 => wO z1.pv fun z => wO (cmpop q y z) fun k => QB k s3) (QB false s2) := by
  rw [wp_z]
  exact z_wt_chn ..
theorem wt_isN (ng : Bool) : Wp (te Γ (.isN ng a) s) QB = Wp (peek a (ev Γ a) s) fun v s' => QB (isNon v != ng) s' := by
  rw [wp_z]
  exact z_wt_isN ..
theorem wt_inn (ng : Bool) : Wp (te Γ (.inn ng a b) s) QB = Wp (late a (ev Γ a) (peek b (ev Γ b)) s) fun p s' => wO (inop p.1 p.2) fun x => QB (x != ng) s' := by
  rw [wp_z]
  exact z_wt_inn ..
theorem wt_call (f : Nat) (es : Exs) : Wp (te Γ (.call f es) s) QB = Wp (ev Γ (.call f es) s) fun o s' => wO o.pv fun v => wO (truth v) fun k => QB k s' := by
  rw [wp_z]
  exact z_wt_call ..
theorem wt_bi (f : Bi) (es : Exs) : Wp (te Γ (.bi f es) s) QB = Wp (ev Γ (.bi f es) s) fun o s' => wO o.pv fun v => wO (truth v) fun k => QB k s' := by
  rw [wp_z]
  exact z_wt_bi ..
theorem wt_ix : Wp (te Γ (.ix a b) s) QB = Wp (ev Γ (.ix a b) s) fun o s' => wO o.pv fun v => wO (truth v) fun k => QB k s' := by
  rw [wp_z]
  exact z_wt_ix ..
theorem wt_isi (tys : List Ty) (tp : Bool) : Wp (te Γ (.isi a tys tp) s) QB = Wp (peek a (ev Γ a) s) fun v s' => QB (tys.any fun t => isTy t v) s' := by
  rw [wp_z]
  exact z_wt_isi ..
theorem wx_nil : Wp (exs Γ cs .nil s) QF = QF .nx s := by
  rw [wp_z]
  exact z_wx_nil ..
theorem wx_cons (st : St) (r : Sts) : Wp (exs Γ cs (.cons st r) s) QF = Wp (ex Γ cs st s) fun f s' => wF f (Wp (exs Γ cs r s') QF) (QF f s') := by
  rw [wp_z]
  exact z_wx_cons ..
theorem wx_expr : Wp (ex Γ cs (.expr a) s) QF = Wp (ev Γ a s) fun o s' => wO o.pv fun _ => QF .nx s' := by
  rw [wp_z]
  exact z_wx_expr ..
theorem wx_app (i : Nat) : Wp (ex Γ cs (.app i a) s) QF = wL (getO s i) fun _ => Wp (ev Γ a s) fun o s' => wO o.pv fun v => wL (getO s' i) fun xs => wB (decide (xs.length < big)) (QF .nx (s'.set i (.lst (xs ++ [v])))) False := by
  rw [wp_z]
  exact z_wx_app ..
theorem w_setV (i : Nat) (o : OV) : Wp (setV cs i o s) QF = wB (decide (i < s.length) && !cs.contains i) (QF .nx (s.set i o)) False := by
  rw [wp_z]
  exact z_w_setV ..
theorem wx_set (i : Nat) : Wp (ex Γ cs (.set (.v i) a) s) QF = Wp (ev Γ a s) fun o s' => wB (decide (i < s'.length) && !cs.contains i) (QF .nx (s'.set i o)) False := by
  rw [wp_z]
  exact z_wx_set ..
theorem wx_setT (ts : Tgs) : Wp (ex Γ cs (.set (.t ts) a) s) QF = Wp (ev Γ a s) fun o s' => wO o.pv fun v => Wp (asgF cs (.t ts) v s') QF := by
  rw [wp_z]
  exact z_wx_setT ..
theorem w_asgF (t : Tg) (v : PV) : Wp (asgF cs t v s) QF = wB (t.slots.all fun i => !cs.contains i) (wO (asg t v s) fun s' => QF .nx s') False := by
  rw [wp_z]
  exact z_w_asgF ..
theorem wx_par2 (i j : Nat) : Wp (ex Γ cs (.par2 i j a b) s) QF = Wp (ev Γ a s) fun x s1 => Wp (ev Γ b s1) fun y s2 => Wp (setV cs i x s2) fun _ s3 => Wp (setV cs j y s3) QF := by
  rw [wp_z]
  exact z_wx_par2 ..
theorem wx_par3 (i j k : Nat) : Wp (ex Γ cs (.par3 i j k a b c) s) QF = Wp (ev Γ a s) fun x s1 => Wp (ev Γ b s1) fun y s2 => Wp (ev Γ c s2) fun z s3 => Wp (setV cs i x s3) fun _ s4 => Wp (setV cs j y s4) fun _ s5 => Wp (setV cs k z s5) QF := by
  rw [wp_z]
  exact z_wx_par3 ..
theorem w_setIxR (i : Nat) (j v : PV) : Wp (setIxR i j v s) QF = wL (getO s i) fun xs => wI j fun k => wO (ixN xs.length k) fun n => QF .nx (s.set i (.lst (xs.set n v))) := by
  rw [wp_z]
  exact z_w_setIxR ..
theorem wx_setIx (i : Nat) : Wp (ex Γ cs (.setIx i b a) s) QF = Wp (ev Γ a s) fun o s1 => wO o.pv fun v => wL (getO s1 i) fun _ => Wp (ev Γ b s1) fun o2 s2 => wO o2.pv fun j => Wp (setIxR i j v s2) QF := by
  rw [wp_z]
  exact z_wx_setIx ..
theorem wx_aug (i : Nat) (o : BOp) : Wp (ex Γ cs (.aug i o a) s) QF = wO (getV s i) fun v => wI v fun x => Wp (ev Γ a s) fun w s1 => wO w.pv fun w => wI w fun y => wO (augop o x y) fun z => Wp (setV cs i (.sh (.int z)) s1) QF := by
  rw [wp_z]
  exact z_wx_aug ..
theorem wx_augIx (i : Nat) (o : BOp) : Wp (ex Γ cs (.augIx i b o a) s) QF = wL (getO s i) fun _ => Wp (ev Γ b s) fun j s1 => wO j.pv fun j => wI j fun j => wO (idxO (getO s1 i) j) fun x => wI x fun x => Wp (ev Γ a s1) fun y s3 => wO y.pv fun y => wI y fun y => wO (augop o x y) fun z => Wp (setIxR i (.int j) (.int z) s3) QF := by
  rw [wp_z]
  exact z_wx_augIx ..
theorem wx_ret : Wp (ex Γ cs (.ret a) s) QF = Wp (ev Γ a s) fun o s' => QF (.rt o) s' := by
  rw [wp_z]
  exact z_wx_ret ..
theorem wx_retN : Wp (ex Γ cs .retN s) QF = QF (.rt (.sh .non)) s := by
  rw [wp_z]
  exact z_wx_retN ..
theorem wx_pass : Wp (ex Γ cs .pass s) QF = QF .nx s := by
  rw [wp_z]
  exact z_wx_pass ..
theorem wx_brk : Wp (ex Γ cs .brk s) QF = QF .bk s := by
  rw [wp_z]
  exact z_wx_brk ..
theorem wx_cont : Wp (ex Γ cs .cont s) QF = QF .ct s := by
  rw [wp_z]
  exact z_wx_cont ..
theorem wx_ifs (x y : Sts) : Wp (ex Γ cs (.ifs c x y) s) QF = Wp (te Γ c s) fun k s' => wB k (Wp (exs Γ cs x s') QF) (Wp (exs Γ cs y s') QF) := by
  rw [wp_z]
  exact z_wx_ifs ..
end
theorem run_ret {Γ : Env} {fn : Fn} {args pad : List OV} {Q : OV → S → Prop} (hl : args.length = fn.np) (hp : args ++ List.replicate (fn.nm.length - fn.np) .emp = pad) (h : Wp (exs Γ fn.cst fn.body pad) (fun f s => match f with
    | .nx => Q (.sh .non) (outsOf fn s)
    | .rt o => Q o (outsOf fn s)
    | _ => False)) : Wp (runBody Γ fn args) Q := by
  simp only [wp_z] at *
  exact z_run_ret hl hp h
section
variable {Γ : Env} {s : S} {Q : OV → S → Prop} {QF : Fl → S → Prop} {QS : List PV × Lk → S → Prop} {cs : List Nat} {a b c : Ex}
theorem wOpen_n {fa : S → Res OV} {Q : PV × Lk → S → Prop} : wOpen none fa s Q = Wp (fa s) fun o s1 => wO o.pv fun v => Q (v, none) s1 := by
  rw [wp_z]
  exact z_wOpen_n ..
theorem w_open (a : Ex) (fa : S → Res OV) (Q : PV × Lk → S → Prop) : Wp (openSeq a fa s) Q = wOpen (isV a) fa s Q := by
  rw [wp_z]
  exact z_w_open ..
theorem wr_seq : Wp (srcs Γ (.seq a) s) QS = Wp (openSeq a (ev Γ a) s) fun p s' => wO (items p.1) fun xs => QS (xs, p.2) s' := by
  rw [wp_z]
  exact z_wr_seq ..
theorem wr_enum : Wp (srcs Γ (.enum a) s) QS = Wp (openSeq a (ev Γ a) s) fun p s' => wO (items p.1) fun xs => QS (enumL 0 xs, p.2) s' := by
  rw [wp_z]
  exact z_wr_enum ..
theorem wr_rng : Wp (srcs Γ (.rng a) s) QS = Wp (ev Γ a s) fun o s' => wO o.pv fun v => wI v fun n => wB (rngOk 0 n) (QS (rngL 0 n, none) s') False := by
  rw [wp_z]
  exact z_wr_rng ..
theorem wr_rng2 : Wp (srcs Γ (.rng2 a b) s) QS = Wp (ev Γ a s) fun o s' => wO o.pv fun v => wI v fun m => Wp (ev Γ b s') fun o2 s2 => wO o2.pv fun v => wI v fun n => wB (rngOk m n) (QS (rngL m n, none) s2) False := by
  rw [wp_z]
  exact z_wr_rng2 ..
theorem w_unlock (l : Lk) (r : Res Fl) : Wp (unlockR l r) QF = Wp r fun f s => QF f (unlock l s) := by
  rw [wp_z]
  exact z_w_unlock ..
theorem wx_for (t : Tg) (src : Src) (b : Sts) : Wp (ex Γ cs (.for_ t src b) s) QF = Wp (srcs Γ src s) fun p s1 => Wp (forL (turnF Γ (lockCs p.2 cs) t b) p.1 (lockO p.2 s1)) fun f s => QF f (unlock p.2 s) := by
  rw [wp_z]
  exact z_wx_for ..
theorem w_turn (t : Tg) (b : Sts) (x : PV) : Wp (turnF Γ cs t b x s) QF = wB (t.slots.all fun i => !cs.contains i) (wO (asg t x s) fun s' => Wp (exs Γ cs b s') QF) False := by
  rw [wp_z]
  exact z_w_turn ..
theorem wp_forL {turn : PV → S → Res Fl} {xs : List PV} (I : Nat → S → Prop) (h0 : I 0 s) (hd : ∀ s, I xs.length s → QF .nx s)
    (hs : ∀ i x s, xs[i]? = some x → I i s → Wp (turn x s) fun f s' => match f with
      | .nx => I (i + 1) s'
      | .ct => I (i + 1) s'
      | .bk => QF .nx s'
      | .rt o => QF (.rt o) s') : Wp (forL turn xs s) QF := by
  simp only [wp_z] at *
  exact z_wp_forL I h0 hd hs
theorem we_comp (elt : Ex) (tg : Tg) (src : Src) (own : List Nat) : Wp (ev Γ (.comp elt tg src own) s) Q = Wp (srcs Γ src s) fun p s1 => wB (plainAt s1 own && decide (p.1.length ≤ big)) (Wp (compL own (bodyC Γ elt tg) p.1 [] (wipeS (lockO p.2 s1) own)) fun ys s2 => Q (.lst ys) (unlock p.2 (back s1 own s2))) False := by
  rw [wp_z]
  exact z_we_comp ..
theorem w_bodyC {QC : Option PV → S → Prop} (elt : Ex) (tg : Tg) (x : PV) : Wp (bodyC Γ elt tg x s) QC = wO (asg tg x s) fun s' => Wp (ev Γ elt s') fun o s2 => wO o.pv fun y => QC (some y) s2 := by
  rw [wp_z]
  exact z_w_bodyC ..
theorem wp_compL {own : List Nat} {body : PV → S → Res (Option PV)} {xs : List PV} {QL : List PV → S → Prop} (I : Nat → List PV → S → Prop) (h0 : I 0 [] s) (hd : ∀ ys s, I xs.length ys s → QL ys s)
    (hs : ∀ i x acc s, xs[i]? = some x → I i acc s → Wp (body x (wipeS s own)) fun y s' => match y with
      | some y => I (i + 1) (acc ++ [y]) s'
      | none => I (i + 1) acc s') : Wp (compL own body xs [] s) QL := by
  simp only [wp_z] at *
  exact z_wp_compL I h0 hd hs
end
end PF
set_option Elab.async false
set_option linter.all false
set_option maxRecDepth 100000
set_option maxHeartbeats 4000000
namespace PF.K51
open PySem PySem.Spec PyProof.Rows PF
def f_is_integer : Fn := ⟨[[118, 97, 108, 117, 101]], 1, [],
  (.cons (.ret (.and (.isi (.var 0) [.int] false) (.not (.isi (.var 0) [.bool] false))))
  .nil)⟩
def f_is_count : Fn := ⟨[[118, 97, 108, 117, 101]], 1, [],
  (.cons (.ret (.and (.call 0 (.cons (.var 0) .nil)) (.cmp .ge (.var 0) (.int 0))))
  .nil)⟩
def f_is_side : Fn := ⟨[[118, 97, 108, 117, 101]], 1, [],
  (.cons (.ret (.and (.isi (.var 0) [.str] false) (.inn false (.var 0) (.glb 0))))
  .nil)⟩
def f_is_step : Fn := ⟨[[118, 97, 108, 117, 101], [119, 111, 114, 100], [115, 105, 100, 101], [99, 111, 108, 111, 117, 114]], 1, [],
  (.cons (.ifs (.not (.isi (.var 0) [.tuple] false))
  (.cons (.ret (.bl false))
  .nil)
  .nil)
  (.cons (.mtch (.var 0) (.seq [1] (.inn false (.var 1) (.tup (.cons (.str [116, 117, 114, 110]) (.cons (.str [109, 105, 114, 114, 111, 114]) .nil))))
  (.cons (.ret (.bl true))
  .nil)
  (.seq [1, 2] (.cmp .eq (.var 1) (.str [99, 117, 116]))
  (.cons (.ret (.call 2 (.cons (.var 2) .nil)))
  .nil)
  (.seq [1, 2, 3] (.cmp .eq (.var 1) (.str [97, 100, 100]))
  (.cons (.ret (.and (.call 2 (.cons (.var 2) .nil)) (.call 1 (.cons (.var 3) .nil))))
  .nil)
  (.all (.cons (.ret (.bl false))
  .nil))))))
  .nil))⟩
def f_check_steps : Fn := ⟨[[115, 116, 101, 112, 115], [105, 110, 100, 101, 120], [115, 116, 101, 112]], 1, [],
  (.cons (.ifs (.or (.not (.isi (.var 0) [.list, .tuple] true)) (.cmp .gt (.bi .len (.cons (.var 0) .nil)) (.glb 1)))
  (.cons .never
  .nil)
  .nil)
  (.cons (.for_ (.t (.cons (.v 1) (.cons (.v 2) .nil))) (.enum (.var 0))
  (.cons (.ifs (.not (.call 3 (.cons (.var 2) .nil)))
  (.cons .never
  .nil)
  .nil)
  .nil))
  .nil))⟩
def f_running_size : Fn := ⟨[[115, 116, 101, 112, 115], [115, 116, 101, 112], [110, 101, 101, 100, 101, 100], [99, 104, 97, 110, 103, 101, 115], [112, 108, 97, 99, 101], [97, 120, 105, 115]], 1, [],
  (.cons (.expr (.call 4 (.cons (.var 0) .nil)))
  (.cons (.par3 2 3 4 (.lst (.cons (.int 1) (.cons (.int 1) .nil))) (.lst (.cons (.int 0) (.cons (.int 0) .nil))) (.int 0))
  (.cons (.for_ (.v 1) (.seq (.var 0))
  (.cons (.ifs (.cmp .eq (.ix (.var 1) (.int 0)) (.str [116, 117, 114, 110]))
  (.cons (.set (.v 4) (.bin .sub (.int 1) (.var 4)))
  .nil)
  (.cons (.ifs (.cmp .ne (.ix (.var 1) (.int 0)) (.str [109, 105, 114, 114, 111, 114]))
  (.cons (.set (.v 5) (.ite (.inn false (.ix (.var 1) (.int 1)) (.tup (.cons (.str [116, 111, 112]) (.cons (.str [98, 111, 116, 116, 111, 109]) .nil)))) (.var 4) (.bin .sub (.int 1) (.var 4))))
  (.cons (.augIx 3 (.var 5) .add (.ite (.cmp .eq (.ix (.var 1) (.int 0)) (.str [97, 100, 100])) (.int 1) (.neg (.int 1))))
  (.cons (.setIx 2 (.var 5) (.bi .max2 (.cons (.ix (.var 2) (.var 5)) (.cons (.bin .sub (.int 1) (.ix (.var 3) (.var 5))) .nil))))
  .nil)))
  .nil)
  .nil))
  .nil))
  (.cons (.ret (.bi .tuple (.cons (.var 2) .nil)))
  .nil))))⟩
def f_law_draw : Fn := ⟨[[112, 111, 111, 108], [99, 111, 117, 110, 116], [114, 101, 115, 117, 108, 116], [99, 101, 108, 108]], 2, [0],
  (.cons (.ifs (.cmp .eq (.ix (.var 0) (.int 2)) (.int 0))
  (.cons (.set (.v 3) (.ite (.cmp .lt (.ix (.var 0) (.int 1)) (.bi .len (.cons (.ix (.var 0) (.int 0)) .nil))) (.ix (.ix (.var 0) (.int 0)) (.ix (.var 0) (.int 1))) (.int 0)))
  (.cons (.setIx 0 (.int 1) (.bin .add (.ix (.var 0) (.int 1)) (.int 1)))
  (.cons (.ifs (.cmp .lt (.var 3) (.bin .pow (.int 10) (.int 18)))
  (.cons (.setIx 0 (.int 3) (.bin .mod (.bin .add (.bin .add (.bin .mul (.ix (.var 0) (.int 3)) (.int 48271)) (.bin .mod (.var 3) (.int 2147483629))) (.ix (.var 0) (.int 1))) (.int 2147483647)))
  (.cons (.ret (.bin .mod (.bin .fdiv (.bin .mod (.bin .mul (.ix (.var 0) (.int 3)) (.ix (.var 0) (.int 3))) (.int 2147483629)) (.int 7)) (.var 1)))
  .nil))
  .nil)
  (.cons (.setIx 0 (.int 2) (.var 3))
  .nil))))
  .nil)
  (.cons (.set (.v 2) (.bin .mod (.ix (.var 0) (.int 2)) (.var 1)))
  (.cons (.setIx 0 (.int 2) (.bin .fdiv (.ix (.var 0) (.int 2)) (.var 1)))
  (.cons (.ret (.var 2))
  .nil))))⟩
def f_law_base : Fn := ⟨[[112, 111, 111, 108]], 1, [0],
  (.cons (.ret (.ix (.lst (.cons (.int 0) (.cons (.int 7) (.cons (.bin .pow (.int 10) (.int 25)) .nil)))) (.call 6 (.cons (.var 0) (.cons (.int 3) .nil)))))
  .nil)⟩
def f_law_steps : Fn := ⟨[[112, 111, 111, 108], [99, 111, 117, 110, 116], [98, 97, 115, 101], [115, 116, 101, 112, 115], [107], [119, 97, 121], [115, 105, 100, 101]], 3, [0],
  (.cons (.set (.v 3) (.lst .nil))
  (.cons (.for_ (.v 4) (.rng (.var 1))
  (.cons (.set (.v 5) (.call 6 (.cons (.var 0) (.cons (.int 8) .nil))))
  (.cons (.set (.v 6) (.ix (.lst (.cons (.str [116, 111, 112]) (.cons (.str [114, 105, 103, 104, 116]) (.cons (.str [98, 111, 116, 116, 111, 109]) (.cons (.str [108, 101, 102, 116]) .nil))))) (.call 6 (.cons (.var 0) (.cons (.int 4) .nil)))))
  (.cons (.ifs (.cmp .lt (.var 5) (.int 2))
  (.cons (.app 3 (.ix (.lst (.cons (.tup (.cons (.str [116, 117, 114, 110]) .nil)) (.cons (.tup (.cons (.str [109, 105, 114, 114, 111, 114]) .nil)) .nil))) (.var 5)))
  .nil)
  (.cons (.ifs (.cmp .lt (.var 5) (.int 5))
  (.cons (.app 3 (.tup (.cons (.str [99, 117, 116]) (.cons (.var 6) .nil))))
  .nil)
  (.cons (.app 3 (.tup (.cons (.str [97, 100, 100]) (.cons (.var 6) (.cons (.bin .add (.var 2) (.call 6 (.cons (.var 0) (.cons (.int 3) .nil)))) .nil)))))
  .nil))
  .nil))
  .nil))))
  (.cons (.ret (.var 3))
  .nil)))⟩
def f_law_after : Fn := ⟨[[103, 114, 105, 100], [115, 116, 101, 112], [115, 105, 100, 101], [108, 105, 110, 101], [114, 111, 119], [97, 116]], 2, [],
  (.cons (.ifs (.cmp .eq (.ix (.var 1) (.int 0)) (.str [116, 117, 114, 110]))
  (.cons (.ret (.comp (.bi .tuple (.cons (.comp (.ix (.var 4) (.var 5)) (.v 4) (.seq (.rev (.var 0))) [4]) .nil)) (.v 5) (.rng (.bi .len (.cons (.ix (.var 0) (.int 0)) .nil))) [5]))
  .nil)
  .nil)
  (.cons (.ifs (.cmp .eq (.ix (.var 1) (.int 0)) (.str [109, 105, 114, 114, 111, 114]))
  (.cons (.ret (.comp (.rev (.var 4)) (.v 4) (.seq (.var 0)) [4]))
  .nil)
  .nil)
  (.cons (.set (.v 2) (.ix (.var 1) (.int 1)))
  (.cons (.ifs (.cmp .eq (.ix (.var 1) (.int 0)) (.str [99, 117, 116]))
  (.cons (.ifs (.cmp .eq (.ite (.inn false (.var 2) (.lst (.cons (.str [116, 111, 112]) (.cons (.str [98, 111, 116, 116, 111, 109]) .nil)))) (.bi .len (.cons (.var 0) .nil)) (.bi .len (.cons (.ix (.var 0) (.int 0)) .nil))) (.int 1))
  (.cons (.ret .non)
  .nil)
  .nil)
  (.cons (.ifs (.inn false (.var 2) (.lst (.cons (.str [116, 111, 112]) (.cons (.str [98, 111, 116, 116, 111, 109]) .nil))))
  (.cons (.ret (.ite (.cmp .eq (.var 2) (.str [116, 111, 112])) (.sl (.var 0) (.yes (.int 1)) .no) (.sl (.var 0) .no (.yes (.neg (.int 1))))))
  .nil)
  .nil)
  (.cons (.ret (.comp (.ite (.cmp .eq (.var 2) (.str [108, 101, 102, 116])) (.sl (.var 4) (.yes (.int 1)) .no) (.sl (.var 4) .no (.yes (.neg (.int 1))))) (.v 4) (.seq (.var 0)) [4]))
  .nil)))
  .nil)
  (.cons (.set (.v 3) (.bin .mul (.tup (.cons (.ix (.var 1) (.int 2)) .nil)) (.bi .len (.cons (.ix (.var 0) (.int 0)) .nil))))
  (.cons (.ifs (.inn false (.var 2) (.lst (.cons (.str [116, 111, 112]) (.cons (.str [98, 111, 116, 116, 111, 109]) .nil))))
  (.cons (.ret (.ite (.cmp .eq (.var 2) (.str [116, 111, 112])) (.bin .add (.lst (.cons (.var 3) .nil)) (.var 0)) (.bin .add (.var 0) (.lst (.cons (.var 3) .nil)))))
  .nil)
  .nil)
  (.cons (.ret (.comp (.ite (.cmp .eq (.var 2) (.str [108, 101, 102, 116])) (.bin .add (.tup (.cons (.ix (.var 1) (.int 2)) .nil)) (.var 4)) (.bin .add (.var 4) (.tup (.cons (.ix (.var 1) (.int 2)) .nil)))) (.v 4) (.seq (.var 0)) [4]))
  .nil)))))))⟩
def f_law_run : Fn := ⟨[[103, 114, 105, 100], [115, 116, 101, 112, 115], [99, 117, 114, 114, 101, 110, 116], [105, 110, 100, 101, 120]], 2, [],
  (.cons (.set (.v 2) (.var 0))
  (.cons (.for_ (.v 3) (.rng (.bi .len (.cons (.var 1) .nil)))
  (.cons (.set (.v 2) (.call 9 (.cons (.var 2) (.cons (.ix (.var 1) (.var 3)) .nil))))
  (.cons (.ifs (.isN false (.var 2))
  (.cons (.ret (.lst (.cons .non (.cons (.var 3) .nil))))
  .nil)
  .nil)
  .nil)))
  (.cons (.ret (.lst (.cons (.var 2) (.cons .non .nil))))
  .nil)))⟩
def f_law_cells : Fn := ⟨[[104, 101, 105, 103, 104, 116], [119, 105, 100, 116, 104], [102, 105, 114, 115, 116], [97, 116], [112, 108, 97, 99, 101]], 3, [],
  (.cons (.ret (.comp (.bi .tuple (.cons (.comp (.bin .add (.bin .add (.var 2) (.bin .mul (.var 3) (.var 1))) (.var 4)) (.v 4) (.rng (.var 1)) [4]) .nil)) (.v 3) (.rng (.var 0)) [3]))
  .nil)⟩
def f_law_runs : Fn := ⟨[[115, 116, 101, 112, 115], [104, 101, 105, 103, 104, 116], [119, 105, 100, 116, 104]], 3, [],
  (.cons (.ret (.isN true (.ix (.call 10 (.cons (.call 11 (.cons (.var 1) (.cons (.var 2) (.cons (.bin .pow (.int 10) (.int 40)) .nil)))) (.cons (.var 0) .nil))) (.int 0))))
  .nil)⟩
def f_law : Fn := ⟨[[115, 99, 114, 105, 112, 116], [112, 111, 111, 108], [116, 117, 114, 110], [108, 111, 110, 103], [115, 116, 101, 112, 115], [102, 111, 117, 110, 100], [104, 101, 105, 103, 104, 116], [119, 105, 100, 116, 104]], 1, [],
  (.cons (.set (.v 1) (.lst (.cons (.bi .list (.cons (.var 0) .nil)) (.cons (.int 0) (.cons (.int 0) (.cons (.int 1) .nil))))))
  (.cons (.for_ (.v 2) (.rng (.int 4))
  (.cons (.set (.v 4) (.call 8 (.cons (.var 1) (.cons (.call 6 (.cons (.var 1) (.cons (.int 11) .nil))) (.cons (.call 7 (.cons (.var 1) .nil)) .nil)))))
  (.cons (.set (.v 5) (.call 5 (.cons (.var 4) .nil)))
  (.cons (.ifs (.or (.not (.isi (.var 5) [.tuple] false)) (.or (.cmp .ne (.bi .len (.cons (.var 5) .nil)) (.int 2)) (.cmp .ne (.call 5 (.cons (.bi .tuple (.cons (.var 4) .nil)) .nil)) (.var 5))))
  (.cons (.ret (.bl false))
  .nil)
  .nil)
  (.cons (.set (.t (.cons (.v 6) (.cons (.v 7) .nil))) (.var 5))
  (.cons (.ifs (.or (.not (.chn .le .le (.int 1) (.var 6) (.bin .add (.bi .len (.cons (.var 4) .nil)) (.int 1)))) (.not (.chn .le .le (.int 1) (.var 7) (.bin .add (.bi .len (.cons (.var 4) .nil)) (.int 1)))))
  (.cons (.ret (.bl false))
  .nil)
  .nil)
  (.cons (.ifs (.or (.not (.call 12 (.cons (.var 4) (.cons (.var 6) (.cons (.var 7) .nil))))) (.not (.call 12 (.cons (.var 4) (.cons (.bin .add (.var 6) (.call 6 (.cons (.var 1) (.cons (.int 4) .nil)))) (.cons (.bin .add (.var 7) (.int 3)) .nil))))))
  (.cons (.ret (.bl false))
  .nil)
  .nil)
  (.cons (.ifs (.and (.cmp .gt (.var 6) (.int 1)) (.call 12 (.cons (.var 4) (.cons (.bin .sub (.var 6) (.int 1)) (.cons (.bin .add (.var 7) (.int 3)) .nil)))))
  (.cons (.ret (.bl false))
  .nil)
  .nil)
  (.cons (.ifs (.and (.cmp .gt (.var 7) (.int 1)) (.call 12 (.cons (.var 4) (.cons (.bin .add (.var 6) (.int 3)) (.cons (.bin .sub (.var 7) (.int 1)) .nil)))))
  (.cons (.ret (.bl false))
  .nil)
  .nil)
  .nil)))))))))
  (.cons (.set (.v 3) (.bin .add (.bin .add (.bin .add (.bin .mul (.lst (.cons (.tup (.cons (.str [99, 117, 116]) (.cons (.str [116, 111, 112]) .nil))) .nil)) (.int 100)) (.lst (.cons (.tup (.cons (.str [116, 117, 114, 110]) .nil)) .nil))) (.bin .mul (.lst (.cons (.tup (.cons (.str [99, 117, 116]) (.cons (.str [108, 101, 102, 116]) .nil))) .nil)) (.int 50))) (.bin .mul (.lst (.cons (.tup (.cons (.str [99, 117, 116]) (.cons (.str [116, 111, 112]) .nil))) .nil)) (.int 49))))
  (.cons (.ret (.and (.cmp .eq (.call 5 (.cons (.var 3) .nil)) (.tup (.cons (.int 151) (.cons (.int 50) .nil)))) (.cmp .eq (.call 5 (.cons (.bin .mul (.lst (.cons (.tup (.cons (.str [97, 100, 100]) (.cons (.str [108, 101, 102, 116]) (.cons (.int 3) .nil)))) .nil)) (.int 200)) .nil)) (.tup (.cons (.int 1) (.cons (.int 1) .nil))))))
  .nil))))⟩
def tops (i : Nat) : Stmt := PySem.Challenge.pw_pictureframes_k51_running_sizes.main.body.getD i (.Pass ⟨0, 0, 0, 0⟩)
def gl : List (Tx × PV) := [([83, 73, 68, 69, 83], (.tup [(.str [116, 111, 112]), (.str [114, 105, 103, 104, 116]), (.str [98, 111, 116, 116, 111, 109]), (.str [108, 101, 102, 116])])), ([77, 65, 88, 95, 83, 84, 69, 80, 83], (.int 200))]
def P : List Dn := [⟨[105, 115, 95, 105, 110, 116, 101, 103, 101, 114], tops 5, f_is_integer⟩,
  ⟨[105, 115, 95, 99, 111, 117, 110, 116], tops 6, f_is_count⟩,
  ⟨[105, 115, 95, 115, 105, 100, 101], tops 7, f_is_side⟩,
  ⟨[105, 115, 95, 115, 116, 101, 112], tops 10, f_is_step⟩,
  ⟨[99, 104, 101, 99, 107, 95, 115, 116, 101, 112, 115], tops 11, f_check_steps⟩,
  ⟨[114, 117, 110, 110, 105, 110, 103, 95, 115, 105, 122, 101], tops 13, f_running_size⟩,
  ⟨[95, 108, 97, 119, 95, 100, 114, 97, 119], tops 15, f_law_draw⟩,
  ⟨[95, 108, 97, 119, 95, 98, 97, 115, 101], tops 16, f_law_base⟩,
  ⟨[95, 108, 97, 119, 95, 115, 116, 101, 112, 115], tops 17, f_law_steps⟩,
  ⟨[95, 108, 97, 119, 95, 97, 102, 116, 101, 114], tops 18, f_law_after⟩,
  ⟨[95, 108, 97, 119, 95, 114, 117, 110], tops 19, f_law_run⟩,
  ⟨[95, 108, 97, 119, 95, 99, 101, 108, 108, 115], tops 20, f_law_cells⟩,
  ⟨[95, 108, 97, 119, 95, 114, 117, 110, 115], tops 21, f_law_runs⟩,
  ⟨[108, 97, 119], tops 22, f_law⟩]
def lawIx : Nat := 13

def run (n : Nat) (ns : List Int) := callD (P.map Dn.fn) (glV gl) n lawIx [.sh (.frz (ns.map PV.int))]
def good : Res OV → Bool
  | .ok (.sh (.bl true)) _ => true
  | _ => false
end PF.K51
set_option Elab.async false
set_option linter.all false
set_option maxRecDepth 1000000
set_option maxHeartbeats 4000000
namespace PF.K51
open PySem PySem.Spec PyProof.Rows PF
def c (n i : Nat) (a : List OV) : Res OV := callD (P.map Dn.fn) (glV gl) n i a
def Γ (n : Nat) : Env := ⟨glV gl, fun g => ((P.map Dn.fn)[g]?).elim [] Fn.cst, callD (P.map Dn.fn) (glV gl) n⟩
theorem c_succ (n i : Nat) (fn : Fn) (h : (P.map Dn.fn)[i]? = some fn) (a : List OV) : c (n + 1) i a = runBody (Γ n) fn a := by
  unfold c callD
  rw [h]
  rfl
theorem rho_c (n g : Nat) (a : List OV) : (Γ n).rho g a = c n g a := rfl
theorem cst0 (n : Nat) : (Γ n).cst 0 = [] := rfl
theorem cst1 (n : Nat) : (Γ n).cst 1 = [] := rfl
theorem cst2 (n : Nat) : (Γ n).cst 2 = [] := rfl
theorem cst3 (n : Nat) : (Γ n).cst 3 = [] := rfl
theorem cst4 (n : Nat) : (Γ n).cst 4 = [] := rfl
theorem cst5 (n : Nat) : (Γ n).cst 5 = [] := rfl
theorem cst6 (n : Nat) : (Γ n).cst 6 = [0] := rfl
theorem cst7 (n : Nat) : (Γ n).cst 7 = [0] := rfl
theorem cst8 (n : Nat) : (Γ n).cst 8 = [0] := rfl
theorem c_is_integer (n : Nat) (i : Int) : c (n + 1) 0 [.sh (.int i)] = .ok (.sh (.bl true)) [.emp] := by
  rw [c_succ n 0 f_is_integer rfl]; rfl
theorem c_is_count (n : Nat) (i : Int) : c (n + 2) 1 [.sh (.int i)] = .ok (.sh (.bl (decide (0 ≤ i)))) [.emp] := by
  rw [c_succ (n + 1) 1 f_is_count rfl]
  refine wp_eq (run_ret rfl rfl ?_)
  show Wp (exs (Γ (n + 1)) [] f_is_count.body [.sh (.int i)]) _
  unfold f_is_count
  repeat (first | rw [wx_cons] | rw [wx_nil] | rw [wx_ifs] | rw [wx_set] | rw [wx_setT] | rw [w_asgF] | rw [wx_ret] | rw [wx_retN] | rw [wx_app] | rw [wx_setIx] | rw [w_setIxR] | rw [wx_aug] | rw [wx_augIx] | rw [wx_expr] | rw [wx_par2] | rw [wx_par3] | rw [w_setV] | rw [wx_pass] | rw [wx_brk] | rw [wx_cont] | rw [wt_and] | rw [wt_or] | rw [wt_not] | rw [wt_var] | rw [wt_cmp] | rw [wt_chn] | rw [wt_isN] | rw [wt_inn] | rw [wt_call] | rw [wt_bi] | rw [wt_ix] | rw [wt_isi] | rw [we_int] | rw [we_bl] | rw [we_non] | rw [we_str] | rw [we_var] | rw [we_glb] | rw [we_tup] | rw [we_lst] | rw [we_bin] | rw [we_neg] | rw [we_cmp] | rw [we_isN] | rw [we_inn] | rw [we_not] | rw [we_and] | rw [we_or] | rw [we_ite] | rw [we_ix] | rw [we_sl] | rw [we_rev] | rw [we_call] | rw [we_bi] | rw [we_isi] | rw [ws_nil] | rw [ws_cons] | rw [wP_one] | rw [wP_more] | rw [wA_nil] | rw [wA_cons] | rw [wo_no] | rw [wo_yes] | rw [w_late] | rw [w_peek] | rw [w_arg] | rw [w_frz] | rw [w_intR] | rw [wCall_some] | rw [wLate_n] | rw [wLate_v] | rw [wPeek_n] | rw [wPeek_v] | rw [wArg_n] | rw [wArg_v] | rw [wr_seq] | rw [wr_enum] | rw [wr_rng] | rw [wr_rng2] | rw [wOpen_v] | rw [wOpen_n] | rw [w_open] | rw [wx_for] | rw [w_turn] | rw [we_comp] | rw [w_bodyC] | rw [wp_opt] | rw [wp_bind] | (simp only [wp_ok, wO_some, wI_int, wB_t, wB_f, wF_nx, wF_rt, wF_bk, wF_ct, wV_sh, wV_lst, wL_lst, get_zero, get_succ, set_zero, set_succ, gv_zero, gv_succ, pv_sh, pv_lst, own_sh, own_lst, isV_var, truth_bl, truth_int, c_lt, c_le, c_gt, c_ge, c_eq, c_ne, o_add, o_sub, len_lst, len_tup, Bool.false_and, Bool.true_and, Bool.and_false, Bool.and_true, isV, tk_v, tk_n, tk_0, tk_1, pu_v, pu_n, pu_0, pu_1, Option.map_some, List.length_cons, List.length_nil, List.contains_cons, List.contains_nil, Bool.or_false, Bool.not_false, Bool.not_true, decide_true, decide_false, Nat.zero_add, Nat.reduceAdd, Nat.reduceLT, Nat.reduceBEq, lockCs_n, lockO_n, unlock_n, lockCs_s, lockO_s, unlock_s, slots_v, slots_t, slots_n, slots_c, asg_t, asgs_n, asgs_c, asg_v', List.singleton_append, List.append_nil, List.all_cons, List.all_nil, Option.bind_some, Bool.false_eq_true, if_false, if_true, cst0, tk_v, tk_n, Option.map_some, rho_c, c_is_integer]))
  exact ⟨trivial, rfl⟩
theorem pow18 : binop .pow (.int 10) (.int 18) = some (.sh (.int 1000000000000000000)) := by rw [o_pow (by decide)]; rfl
/-- a pool -/
def Pool (ns : List Int) (i b d : Int) : OV := .lst [.lst (ns.map PV.int), .int i, .int b, .int d]
structure PoolOk (i b d : Int) : Prop where
  i0 : 0 ≤ i
  b0 : 0 ≤ b
  d0 : 0 ≤ d
  d1 : d < 2147483647
theorem p0 (a b c d : PV) : index (.lst [a, b, c, d]) (.int 0) = some a := rfl
theorem p1 (a b c d : PV) : index (.lst [a, b, c, d]) (.int 1) = some b := rfl
theorem p2 (a b c d : PV) : index (.lst [a, b, c, d]) (.int 2) = some c := rfl
theorem p3 (a b c d : PV) : index (.lst [a, b, c, d]) (.int 3) = some d := rfl
theorem q1 : ixN 4 1 = some 1 := rfl
theorem q2 : ixN 4 2 = some 2 := rfl
theorem q3 : ixN 4 3 = some 3 := rfl
theorem r1 (a b c d e : PV) : [a, b, c, d].set 1 e = [a, e, c, d] := rfl
theorem r2 (a b c d e : PV) : [a, b, c, d].set 2 e = [a, b, e, d] := rfl
theorem r3 (a b c d e : PV) : [a, b, c, d].set 3 e = [a, b, c, e] := rfl
/-- the second half: the pool's big number gives -/
theorem draw_big (n : Nat) (ns : List Int) (i b d k : Int) (h : PoolOk i b d) (hk : 0 < k) (hk2 : k < 1073741824) (x : OV) :
    Wp (exs (Γ n) [0] (.cons (.set (.v 2) (.bin .mod (.ix (.var 0) (.int 2)) (.var 1)))
  (.cons (.setIx 0 (.int 2) (.bin .fdiv (.ix (.var 0) (.int 2)) (.var 1)))
  (.cons (.ret (.var 2)) .nil))) [Pool ns i b d, .sh (.int k), .emp, x]) fun f s => ∃ r b', f = .rt (.sh (.int r)) ∧ s = [Pool ns i b' d, .sh (.int k), .sh (.int r), x] ∧ PoolOk i b' d ∧ 0 ≤ r ∧ r < k := by
  unfold Pool
  repeat (first | rw [wx_cons] | rw [wx_nil] | rw [wx_ifs] | rw [wx_set] | rw [wx_setT] | rw [w_asgF] | rw [wx_ret] | rw [wx_retN] | rw [wx_app] | rw [wx_setIx] | rw [w_setIxR] | rw [wx_aug] | rw [wx_augIx] | rw [wx_expr] | rw [wx_par2] | rw [wx_par3] | rw [w_setV] | rw [wx_pass] | rw [wx_brk] | rw [wx_cont] | rw [wt_and] | rw [wt_or] | rw [wt_not] | rw [wt_var] | rw [wt_cmp] | rw [wt_chn] | rw [wt_isN] | rw [wt_inn] | rw [wt_call] | rw [wt_bi] | rw [wt_ix] | rw [wt_isi] | rw [we_int] | rw [we_bl] | rw [we_non] | rw [we_str] | rw [we_var] | rw [we_glb] | rw [we_tup] | rw [we_lst] | rw [we_bin] | rw [we_neg] | rw [we_cmp] | rw [we_isN] | rw [we_inn] | rw [we_not] | rw [we_and] | rw [we_or] | rw [we_ite] | rw [we_ix] | rw [we_sl] | rw [we_rev] | rw [we_call] | rw [we_bi] | rw [we_isi] | rw [ws_nil] | rw [ws_cons] | rw [wP_one] | rw [wP_more] | rw [wA_nil] | rw [wA_cons] | rw [wo_no] | rw [wo_yes] | rw [w_late] | rw [w_peek] | rw [w_arg] | rw [w_frz] | rw [w_intR] | rw [wCall_some] | rw [wLate_n] | rw [wLate_v] | rw [wPeek_n] | rw [wPeek_v] | rw [wArg_n] | rw [wArg_v] | rw [wr_seq] | rw [wr_enum] | rw [wr_rng] | rw [wr_rng2] | rw [wOpen_v] | rw [wOpen_n] | rw [w_open] | rw [wx_for] | rw [w_turn] | rw [we_comp] | rw [w_bodyC] | rw [wp_opt] | rw [wp_bind] | (simp only [wp_ok, wO_some, wI_int, wB_t, wB_f, wF_nx, wF_rt, wF_bk, wF_ct, wV_sh, wV_lst, wL_lst, get_zero, get_succ, set_zero, set_succ, gv_zero, gv_succ, pv_sh, pv_lst, own_sh, own_lst, isV_var, truth_bl, truth_int, c_lt, c_le, c_gt, c_ge, c_eq, c_ne, o_add, o_sub, len_lst, len_tup, Bool.false_and, Bool.true_and, Bool.and_false, Bool.and_true, isV, tk_v, tk_n, tk_0, tk_1, pu_v, pu_n, pu_0, pu_1, Option.map_some, List.length_cons, List.length_nil, List.contains_cons, List.contains_nil, Bool.or_false, Bool.not_false, Bool.not_true, decide_true, decide_false, Nat.zero_add, Nat.reduceAdd, Nat.reduceLT, Nat.reduceBEq, lockCs_n, lockO_n, unlock_n, lockCs_s, lockO_s, unlock_s, slots_v, slots_t, slots_n, slots_c, asg_t, asgs_n, asgs_c, asg_v', List.singleton_append, List.append_nil, List.all_cons, List.all_nil, Option.bind_some, Bool.false_eq_true, if_false, if_true, p0, p1, p2, p3, q2, r2, o_mod hk, o_div ⟨hk, hk2⟩]))
  refine ⟨_, _, rfl, rfl, ⟨h.i0, ?_, h.d0, h.d1⟩, Int.emod_nonneg _ (by omega), Int.emod_lt_of_pos _ hk⟩
  exact Int.ediv_nonneg h.b0 (by omega)
/-- a number that is drawn -/
def Drawn (ns : List Int) (k : Int) (v : OV) (o : List OV) : Prop := ∃ i' b' d' r, v = .sh (.int r) ∧ o = [Pool ns i' b' d', .emp] ∧ PoolOk i' b' d' ∧ 0 ≤ r ∧ r < k
def DrawnS (ns : List Int) (k : Int) (f : Fl) (s : S) : Prop := ∃ i' b' d' r x y, f = .rt (.sh (.int r)) ∧ s = [Pool ns i' b' d', .sh (.int k), x, y] ∧ PoolOk i' b' d' ∧ 0 ≤ r ∧ r < k
def drawTail : Sts := .cons (.set (.v 2) (.bin .mod (.ix (.var 0) (.int 2)) (.var 1)))
  (.cons (.setIx 0 (.int 2) (.bin .fdiv (.ix (.var 0) (.int 2)) (.var 1)))
  (.cons (.ret (.var 2)) .nil))
theorem draw_tail (n : Nat) (ns : List Int) (i b d k : Int) (h : PoolOk i b d) (hk : 0 < k) (hk2 : k < 1073741824) (x : OV) : Wp (exs (Γ n) [0] drawTail [Pool ns i b d, .sh (.int k), .emp, x]) (DrawnS ns k) :=
  wp_imp (draw_big n ns i b d k h hk hk2 x) fun f s ⟨r, b', e1, e2, h1, h2, h3⟩ => ⟨i, b', d, r, _, x, e1, e2, h1, h2, h3⟩
def drawHead : Sts := .cons (.set (.v 3) (.ite (.cmp .lt (.ix (.var 0) (.int 1)) (.bi .len (.cons (.ix (.var 0) (.int 0)) .nil))) (.ix (.ix (.var 0) (.int 0)) (.ix (.var 0) (.int 1))) (.int 0)))
  (.cons (.setIx 0 (.int 1) (.bin .add (.ix (.var 0) (.int 1)) (.int 1)))
  (.cons (.ifs (.cmp .lt (.var 3) (.bin .pow (.int 10) (.int 18)))
  (.cons (.setIx 0 (.int 3) (.bin .mod (.bin .add (.bin .add (.bin .mul (.ix (.var 0) (.int 3)) (.int 48271)) (.bin .mod (.var 3) (.int 2147483629))) (.ix (.var 0) (.int 1))) (.int 2147483647)))
  (.cons (.ret (.bin .mod (.bin .fdiv (.bin .mod (.bin .mul (.ix (.var 0) (.int 3)) (.ix (.var 0) (.int 3))) (.int 2147483629)) (.int 7)) (.var 1)))
  .nil))
  .nil)
  (.cons (.setIx 0 (.int 2) (.var 3))
  .nil)))
theorem f_draw_eq : f_law_draw.body = .cons (.ifs (.cmp .eq (.ix (.var 0) (.int 2)) (.int 0)) drawHead .nil) drawTail := rfl
/-- behind the head: drawn, or the big number stands -/
def HeadS (ns : List Int) (k : Int) (f : Fl) (s : S) : Prop := DrawnS ns k f s ∨ ∃ i' b' d' x, f = .nx ∧ s = [Pool ns i' b' d', .sh (.int k), .emp, x] ∧ PoolOk i' b' d'
/-- the head behind its cell -/
theorem draw_head2 (n : Nat) (ns : List Int) (i d k cell : Int) (h : PoolOk i 0 d) (hk : 0 < k) (hk2 : k < 1073741824) : Wp (exs (Γ n) [0] (.cons (.setIx 0 (.int 1) (.bin .add (.ix (.var 0) (.int 1)) (.int 1)))
  (.cons (.ifs (.cmp .lt (.var 3) (.bin .pow (.int 10) (.int 18)))
  (.cons (.setIx 0 (.int 3) (.bin .mod (.bin .add (.bin .add (.bin .mul (.ix (.var 0) (.int 3)) (.int 48271)) (.bin .mod (.var 3) (.int 2147483629))) (.ix (.var 0) (.int 1))) (.int 2147483647)))
  (.cons (.ret (.bin .mod (.bin .fdiv (.bin .mod (.bin .mul (.ix (.var 0) (.int 3)) (.ix (.var 0) (.int 3))) (.int 2147483629)) (.int 7)) (.var 1)))
  .nil))
  .nil)
  (.cons (.setIx 0 (.int 2) (.var 3))
  .nil))) [Pool ns i 0 d, .sh (.int k), .emp, .sh (.int cell)]) (HeadS ns k) := by
  have hd := h.d0
  have hd1 := h.d1
  have hi := h.i0
  have m1 := o_mulL (a := d) (b := 48271) (by omega)
  have e1 := Int.emod_nonneg (d * 48271 + cell % 2147483629 + (i + 1)) (show (2147483647 : Int) ≠ 0 by decide)
  have e2 := Int.emod_lt_of_pos (d * 48271 + cell % 2147483629 + (i + 1)) (show (0 : Int) < 2147483647 by decide)
  have m2 := o_mulL (a := (d * 48271 + cell % 2147483629 + (i + 1)) % 2147483647) (b := (d * 48271 + cell % 2147483629 + (i + 1)) % 2147483647) (by omega)
  have md1 := o_mod (a := cell) (b := 2147483629) (by decide)
  have md2 := fun a => o_mod (a := a) (b := 2147483647) (by decide)
  have md3 := fun a => o_mod (a := a) (b := 2147483629) (by decide)
  have dv := fun a => o_div (a := a) (b := 7) (by decide)
  have mk := fun a => o_mod (a := a) (b := k) hk
  unfold Pool
  by_cases hc : cell < 1000000000000000000
  · have hc' : decide (cell < 1000000000000000000) = true := decide_eq_true hc
    repeat (first | rw [wx_cons] | rw [wx_nil] | rw [wx_ifs] | rw [wx_set] | rw [wx_setT] | rw [w_asgF] | rw [wx_ret] | rw [wx_retN] | rw [wx_app] | rw [wx_setIx] | rw [w_setIxR] | rw [wx_aug] | rw [wx_augIx] | rw [wx_expr] | rw [wx_par2] | rw [wx_par3] | rw [w_setV] | rw [wx_pass] | rw [wx_brk] | rw [wx_cont] | rw [wt_and] | rw [wt_or] | rw [wt_not] | rw [wt_var] | rw [wt_cmp] | rw [wt_chn] | rw [wt_isN] | rw [wt_inn] | rw [wt_call] | rw [wt_bi] | rw [wt_ix] | rw [wt_isi] | rw [we_int] | rw [we_bl] | rw [we_non] | rw [we_str] | rw [we_var] | rw [we_glb] | rw [we_tup] | rw [we_lst] | rw [we_bin] | rw [we_neg] | rw [we_cmp] | rw [we_isN] | rw [we_inn] | rw [we_not] | rw [we_and] | rw [we_or] | rw [we_ite] | rw [we_ix] | rw [we_sl] | rw [we_rev] | rw [we_call] | rw [we_bi] | rw [we_isi] | rw [ws_nil] | rw [ws_cons] | rw [wP_one] | rw [wP_more] | rw [wA_nil] | rw [wA_cons] | rw [wo_no] | rw [wo_yes] | rw [w_late] | rw [w_peek] | rw [w_arg] | rw [w_frz] | rw [w_intR] | rw [wCall_some] | rw [wLate_n] | rw [wLate_v] | rw [wPeek_n] | rw [wPeek_v] | rw [wArg_n] | rw [wArg_v] | rw [wr_seq] | rw [wr_enum] | rw [wr_rng] | rw [wr_rng2] | rw [wOpen_v] | rw [wOpen_n] | rw [w_open] | rw [wx_for] | rw [w_turn] | rw [we_comp] | rw [w_bodyC] | rw [wp_opt] | rw [wp_bind] | (simp only [wp_ok, wO_some, wI_int, wB_t, wB_f, wF_nx, wF_rt, wF_bk, wF_ct, wV_sh, wV_lst, wL_lst, get_zero, get_succ, set_zero, set_succ, gv_zero, gv_succ, pv_sh, pv_lst, own_sh, own_lst, isV_var, truth_bl, truth_int, c_lt, c_le, c_gt, c_ge, c_eq, c_ne, o_add, o_sub, len_lst, len_tup, Bool.false_and, Bool.true_and, Bool.and_false, Bool.and_true, isV, tk_v, tk_n, tk_0, tk_1, pu_v, pu_n, pu_0, pu_1, Option.map_some, List.length_cons, List.length_nil, List.contains_cons, List.contains_nil, Bool.or_false, Bool.not_false, Bool.not_true, decide_true, decide_false, Nat.zero_add, Nat.reduceAdd, Nat.reduceLT, Nat.reduceBEq, lockCs_n, lockO_n, unlock_n, lockCs_s, lockO_s, unlock_s, slots_v, slots_t, slots_n, slots_c, asg_t, asgs_n, asgs_c, asg_v', List.singleton_append, List.append_nil, List.all_cons, List.all_nil, Option.bind_some, Bool.false_eq_true, if_false, if_true, p0, p1, p2, p3, q1, q2, q3, r1, r2, r3, pow18, hc', m1, md1, md2, m2, md3, dv, mk]))
    refine .inl ⟨_, _, _, _, _, _, rfl, rfl, ⟨by omega, Int.le_refl 0, e1, e2⟩, Int.emod_nonneg _ (by omega), Int.emod_lt_of_pos _ hk⟩
  · have hc' : decide (cell < 1000000000000000000) = false := decide_eq_false hc
    repeat (first | rw [wx_cons] | rw [wx_nil] | rw [wx_ifs] | rw [wx_set] | rw [wx_setT] | rw [w_asgF] | rw [wx_ret] | rw [wx_retN] | rw [wx_app] | rw [wx_setIx] | rw [w_setIxR] | rw [wx_aug] | rw [wx_augIx] | rw [wx_expr] | rw [wx_par2] | rw [wx_par3] | rw [w_setV] | rw [wx_pass] | rw [wx_brk] | rw [wx_cont] | rw [wt_and] | rw [wt_or] | rw [wt_not] | rw [wt_var] | rw [wt_cmp] | rw [wt_chn] | rw [wt_isN] | rw [wt_inn] | rw [wt_call] | rw [wt_bi] | rw [wt_ix] | rw [wt_isi] | rw [we_int] | rw [we_bl] | rw [we_non] | rw [we_str] | rw [we_var] | rw [we_glb] | rw [we_tup] | rw [we_lst] | rw [we_bin] | rw [we_neg] | rw [we_cmp] | rw [we_isN] | rw [we_inn] | rw [we_not] | rw [we_and] | rw [we_or] | rw [we_ite] | rw [we_ix] | rw [we_sl] | rw [we_rev] | rw [we_call] | rw [we_bi] | rw [we_isi] | rw [ws_nil] | rw [ws_cons] | rw [wP_one] | rw [wP_more] | rw [wA_nil] | rw [wA_cons] | rw [wo_no] | rw [wo_yes] | rw [w_late] | rw [w_peek] | rw [w_arg] | rw [w_frz] | rw [w_intR] | rw [wCall_some] | rw [wLate_n] | rw [wLate_v] | rw [wPeek_n] | rw [wPeek_v] | rw [wArg_n] | rw [wArg_v] | rw [wr_seq] | rw [wr_enum] | rw [wr_rng] | rw [wr_rng2] | rw [wOpen_v] | rw [wOpen_n] | rw [w_open] | rw [wx_for] | rw [w_turn] | rw [we_comp] | rw [w_bodyC] | rw [wp_opt] | rw [wp_bind] | (simp only [wp_ok, wO_some, wI_int, wB_t, wB_f, wF_nx, wF_rt, wF_bk, wF_ct, wV_sh, wV_lst, wL_lst, get_zero, get_succ, set_zero, set_succ, gv_zero, gv_succ, pv_sh, pv_lst, own_sh, own_lst, isV_var, truth_bl, truth_int, c_lt, c_le, c_gt, c_ge, c_eq, c_ne, o_add, o_sub, len_lst, len_tup, Bool.false_and, Bool.true_and, Bool.and_false, Bool.and_true, isV, tk_v, tk_n, tk_0, tk_1, pu_v, pu_n, pu_0, pu_1, Option.map_some, List.length_cons, List.length_nil, List.contains_cons, List.contains_nil, Bool.or_false, Bool.not_false, Bool.not_true, decide_true, decide_false, Nat.zero_add, Nat.reduceAdd, Nat.reduceLT, Nat.reduceBEq, lockCs_n, lockO_n, unlock_n, lockCs_s, lockO_s, unlock_s, slots_v, slots_t, slots_n, slots_c, asg_t, asgs_n, asgs_c, asg_v', List.singleton_append, List.append_nil, List.all_cons, List.all_nil, Option.bind_some, Bool.false_eq_true, if_false, if_true, p0, p1, p2, p3, q1, q2, q3, r1, r2, r3, pow18, hc']))
    exact .inr ⟨_, _, _, _, rfl, rfl, ⟨by omega, by omega, hd, hd1⟩⟩
theorem draw_head (n : Nat) (ns : List Int) (i d k : Int) (h : PoolOk i 0 d) (hk : 0 < k) (hk2 : k < 1073741824) : Wp (exs (Γ n) [0] drawHead [Pool ns i 0 d, .sh (.int k), .emp, .emp]) (HeadS ns k) := by
  have hi := h.i0
  have go := fun cell => draw_head2 n ns i d k cell h hk hk2
  unfold Pool at go
  unfold drawHead Pool
  by_cases hl : i < ns.length
  · have hl' : decide (i < ((ns.length : Nat) : Int)) = true := decide_eq_true hl
    have hn : i.toNat < ns.length := by omega
    have e1 : (ns.map PV.int)[i.toNat]? = some (.int ns[i.toNat]) := by rw [List.getElem?_map, List.getElem?_eq_getElem hn]; rfl
    have e2 := ix_lst (xs := ns.map PV.int) (k := i) (ixN_nn hi (by rw [List.length_map]; exact hl)) e1
    rw [wx_cons]
    rw [wx_set]
    repeat (first | rw [wx_cons] | rw [wx_nil] | rw [wx_ifs] | rw [wx_set] | rw [wx_setT] | rw [w_asgF] | rw [wx_ret] | rw [wx_retN] | rw [wx_app] | rw [wx_setIx] | rw [w_setIxR] | rw [wx_aug] | rw [wx_augIx] | rw [wx_expr] | rw [wx_par2] | rw [wx_par3] | rw [w_setV] | rw [wx_pass] | rw [wx_brk] | rw [wx_cont] | rw [wt_and] | rw [wt_or] | rw [wt_not] | rw [wt_var] | rw [wt_cmp] | rw [wt_chn] | rw [wt_isN] | rw [wt_inn] | rw [wt_call] | rw [wt_bi] | rw [wt_ix] | rw [wt_isi] | rw [we_int] | rw [we_bl] | rw [we_non] | rw [we_str] | rw [we_var] | rw [we_glb] | rw [we_tup] | rw [we_lst] | rw [we_bin] | rw [we_neg] | rw [we_cmp] | rw [we_isN] | rw [we_inn] | rw [we_not] | rw [we_and] | rw [we_or] | rw [we_ite] | rw [we_ix] | rw [we_sl] | rw [we_rev] | rw [we_call] | rw [we_bi] | rw [we_isi] | rw [ws_nil] | rw [ws_cons] | rw [wP_one] | rw [wP_more] | rw [wA_nil] | rw [wA_cons] | rw [wo_no] | rw [wo_yes] | rw [w_late] | rw [w_peek] | rw [w_arg] | rw [w_frz] | rw [w_intR] | rw [wCall_some] | rw [wLate_n] | rw [wLate_v] | rw [wPeek_n] | rw [wPeek_v] | rw [wArg_n] | rw [wArg_v] | rw [wr_seq] | rw [wr_enum] | rw [wr_rng] | rw [wr_rng2] | rw [wOpen_v] | rw [wOpen_n] | rw [w_open] | rw [wx_for] | rw [w_turn] | rw [we_comp] | rw [w_bodyC] | rw [wp_opt] | rw [wp_bind] | (simp only [wp_ok, wO_some, wI_int, wB_t, wB_f, wF_nx, wF_rt, wF_bk, wF_ct, wV_sh, wV_lst, wL_lst, get_zero, get_succ, set_zero, set_succ, gv_zero, gv_succ, pv_sh, pv_lst, own_sh, own_lst, isV_var, truth_bl, truth_int, c_lt, c_le, c_gt, c_ge, c_eq, c_ne, o_add, o_sub, len_lst, len_tup, Bool.false_and, Bool.true_and, Bool.and_false, Bool.and_true, isV, tk_v, tk_n, tk_0, tk_1, pu_v, pu_n, pu_0, pu_1, Option.map_some, List.length_cons, List.length_nil, List.contains_cons, List.contains_nil, Bool.or_false, Bool.not_false, Bool.not_true, decide_true, decide_false, Nat.zero_add, Nat.reduceAdd, Nat.reduceLT, Nat.reduceBEq, lockCs_n, lockO_n, unlock_n, lockCs_s, lockO_s, unlock_s, slots_v, slots_t, slots_n, slots_c, asg_t, asgs_n, asgs_c, asg_v', List.singleton_append, List.append_nil, List.all_cons, List.all_nil, Option.bind_some, Bool.false_eq_true, if_false, if_true, p0, p1, List.length_map, hl', e2]))
    exact go _
  · have hl' : decide (i < ((ns.length : Nat) : Int)) = false := decide_eq_false hl
    rw [wx_cons]
    rw [wx_set]
    repeat (first | rw [wx_cons] | rw [wx_nil] | rw [wx_ifs] | rw [wx_set] | rw [wx_setT] | rw [w_asgF] | rw [wx_ret] | rw [wx_retN] | rw [wx_app] | rw [wx_setIx] | rw [w_setIxR] | rw [wx_aug] | rw [wx_augIx] | rw [wx_expr] | rw [wx_par2] | rw [wx_par3] | rw [w_setV] | rw [wx_pass] | rw [wx_brk] | rw [wx_cont] | rw [wt_and] | rw [wt_or] | rw [wt_not] | rw [wt_var] | rw [wt_cmp] | rw [wt_chn] | rw [wt_isN] | rw [wt_inn] | rw [wt_call] | rw [wt_bi] | rw [wt_ix] | rw [wt_isi] | rw [we_int] | rw [we_bl] | rw [we_non] | rw [we_str] | rw [we_var] | rw [we_glb] | rw [we_tup] | rw [we_lst] | rw [we_bin] | rw [we_neg] | rw [we_cmp] | rw [we_isN] | rw [we_inn] | rw [we_not] | rw [we_and] | rw [we_or] | rw [we_ite] | rw [we_ix] | rw [we_sl] | rw [we_rev] | rw [we_call] | rw [we_bi] | rw [we_isi] | rw [ws_nil] | rw [ws_cons] | rw [wP_one] | rw [wP_more] | rw [wA_nil] | rw [wA_cons] | rw [wo_no] | rw [wo_yes] | rw [w_late] | rw [w_peek] | rw [w_arg] | rw [w_frz] | rw [w_intR] | rw [wCall_some] | rw [wLate_n] | rw [wLate_v] | rw [wPeek_n] | rw [wPeek_v] | rw [wArg_n] | rw [wArg_v] | rw [wr_seq] | rw [wr_enum] | rw [wr_rng] | rw [wr_rng2] | rw [wOpen_v] | rw [wOpen_n] | rw [w_open] | rw [wx_for] | rw [w_turn] | rw [we_comp] | rw [w_bodyC] | rw [wp_opt] | rw [wp_bind] | (simp only [wp_ok, wO_some, wI_int, wB_t, wB_f, wF_nx, wF_rt, wF_bk, wF_ct, wV_sh, wV_lst, wL_lst, get_zero, get_succ, set_zero, set_succ, gv_zero, gv_succ, pv_sh, pv_lst, own_sh, own_lst, isV_var, truth_bl, truth_int, c_lt, c_le, c_gt, c_ge, c_eq, c_ne, o_add, o_sub, len_lst, len_tup, Bool.false_and, Bool.true_and, Bool.and_false, Bool.and_true, isV, tk_v, tk_n, tk_0, tk_1, pu_v, pu_n, pu_0, pu_1, Option.map_some, List.length_cons, List.length_nil, List.contains_cons, List.contains_nil, Bool.or_false, Bool.not_false, Bool.not_true, decide_true, decide_false, Nat.zero_add, Nat.reduceAdd, Nat.reduceLT, Nat.reduceBEq, lockCs_n, lockO_n, unlock_n, lockCs_s, lockO_s, unlock_s, slots_v, slots_t, slots_n, slots_c, asg_t, asgs_n, asgs_c, asg_v', List.singleton_append, List.append_nil, List.all_cons, List.all_nil, Option.bind_some, Bool.false_eq_true, if_false, if_true, p0, p1, List.length_map, hl']))
    exact go _
end PF.K51
set_option Elab.async false
set_option linter.all false
set_option maxRecDepth 1000000
set_option maxHeartbeats 4000000
namespace PF.K51
open PySem PySem.Spec PyProof.Rows PF
theorem c_draw (n : Nat) (ns : List Int) (i b d k : Int) (h : PoolOk i b d) (hk : 0 < k) (hk2 : k < 1073741824) : Wp (c (n + 1) 6 [Pool ns i b d, .sh (.int k)]) (Drawn ns k) := by
  rw [c_succ n 6 f_law_draw rfl]
  refine run_ret (pad := [Pool ns i b d, .sh (.int k), .emp, .emp]) rfl rfl ?_
  show Wp (exs (Γ n) [0] f_law_draw.body _) _
  refine wp_imp (Q := DrawnS ns k) ?_ fun f s ⟨i', b', d', r, x, y, e1, e2, h1, h2, h3⟩ => ?_
  · rw [f_draw_eq, wx_cons, wx_ifs]
    have q : Wp (te (Γ n) (.cmp .eq (.ix (.var 0) (.int 2)) (.int 0)) [Pool ns i b d, .sh (.int k), .emp, .emp]) fun t s => t = (b == 0) ∧ s = [Pool ns i b d, .sh (.int k), .emp, .emp] := by
      unfold Pool
      repeat (first | rw [wx_cons] | rw [wx_nil] | rw [wx_ifs] | rw [wx_set] | rw [wx_setT] | rw [w_asgF] | rw [wx_ret] | rw [wx_retN] | rw [wx_app] | rw [wx_setIx] | rw [w_setIxR] | rw [wx_aug] | rw [wx_augIx] | rw [wx_expr] | rw [wx_par2] | rw [wx_par3] | rw [w_setV] | rw [wx_pass] | rw [wx_brk] | rw [wx_cont] | rw [wt_and] | rw [wt_or] | rw [wt_not] | rw [wt_var] | rw [wt_cmp] | rw [wt_chn] | rw [wt_isN] | rw [wt_inn] | rw [wt_call] | rw [wt_bi] | rw [wt_ix] | rw [wt_isi] | rw [we_int] | rw [we_bl] | rw [we_non] | rw [we_str] | rw [we_var] | rw [we_glb] | rw [we_tup] | rw [we_lst] | rw [we_bin] | rw [we_neg] | rw [we_cmp] | rw [we_isN] | rw [we_inn] | rw [we_not] | rw [we_and] | rw [we_or] | rw [we_ite] | rw [we_ix] | rw [we_sl] | rw [we_rev] | rw [we_call] | rw [we_bi] | rw [we_isi] | rw [ws_nil] | rw [ws_cons] | rw [wP_one] | rw [wP_more] | rw [wA_nil] | rw [wA_cons] | rw [wo_no] | rw [wo_yes] | rw [w_late] | rw [w_peek] | rw [w_arg] | rw [w_frz] | rw [w_intR] | rw [wCall_some] | rw [wLate_n] | rw [wLate_v] | rw [wPeek_n] | rw [wPeek_v] | rw [wArg_n] | rw [wArg_v] | rw [wr_seq] | rw [wr_enum] | rw [wr_rng] | rw [wr_rng2] | rw [wOpen_v] | rw [wOpen_n] | rw [w_open] | rw [wx_for] | rw [w_turn] | rw [we_comp] | rw [w_bodyC] | rw [wp_opt] | rw [wp_bind] | (simp only [wp_ok, wO_some, wI_int, wB_t, wB_f, wF_nx, wF_rt, wF_bk, wF_ct, wV_sh, wV_lst, wL_lst, get_zero, get_succ, set_zero, set_succ, gv_zero, gv_succ, pv_sh, pv_lst, own_sh, own_lst, isV_var, truth_bl, truth_int, c_lt, c_le, c_gt, c_ge, c_eq, c_ne, o_add, o_sub, len_lst, len_tup, Bool.false_and, Bool.true_and, Bool.and_false, Bool.and_true, isV, tk_v, tk_n, tk_0, tk_1, pu_v, pu_n, pu_0, pu_1, Option.map_some, List.length_cons, List.length_nil, List.contains_cons, List.contains_nil, Bool.or_false, Bool.not_false, Bool.not_true, decide_true, decide_false, Nat.zero_add, Nat.reduceAdd, Nat.reduceLT, Nat.reduceBEq, lockCs_n, lockO_n, unlock_n, lockCs_s, lockO_s, unlock_s, slots_v, slots_t, slots_n, slots_c, asg_t, asgs_n, asgs_c, asg_v', List.singleton_append, List.append_nil, List.all_cons, List.all_nil, Option.bind_some, Bool.false_eq_true, if_false, if_true, p2]))
      exact ⟨trivial, trivial⟩
    refine wp_imp q fun t s ⟨et, es⟩ => ?_
    subst et es
    by_cases hb : b = 0
    · subst hb
      rw [show ((0 : Int) == 0) = true from rfl, wB_t]
      refine wp_imp (draw_head n ns i d k h hk hk2) fun f s hs => ?_
      rcases hs with hs | ⟨i', b', d', x, rfl, rfl, h'⟩
      · obtain ⟨i', b', d', r, x, y, rfl, rfl, h1⟩ := hs
        rw [wF_rt]
        exact ⟨i', b', d', r, x, y, rfl, rfl, h1⟩
      · rw [wF_nx]
        exact draw_tail n ns i' b' d' k h' hk hk2 x
    · have hb' : (b == 0) = false := by simpa using hb
      rw [hb', wB_f, wx_nil, wF_nx]
      exact draw_tail n ns i b d k h hk hk2 .emp
  · subst e1 e2
    exact ⟨i', b', d', r, rfl, rfl, h1, h2, h3⟩
theorem pow25 : binop .pow (.int 10) (.int 25) = some (.sh (.int 10000000000000000000000000)) := by rw [o_pow (by decide)]; rfl
/-- an index of three -/
theorem ix3 (a b c : PV) (r : Int) (h : 0 ≤ r) (h2 : r < 3) : ∃ v, index (.lst [a, b, c]) (.int r) = some v ∧ (v = a ∨ v = b ∨ v = c) := by
  have : r = 0 ∨ r = 1 ∨ r = 2 := by omega
  rcases this with rfl | rfl | rfl
  · exact ⟨a, rfl, .inl rfl⟩
  · exact ⟨b, rfl, .inr (.inl rfl)⟩
  · exact ⟨c, rfl, .inr (.inr rfl)⟩
theorem c_base (n : Nat) (ns : List Int) (i b d : Int) (h : PoolOk i b d) : Wp (c (n + 2) 7 [Pool ns i b d]) fun v o => ∃ i' b' d' r, v = .sh (.int r) ∧ o = [Pool ns i' b' d'] ∧ PoolOk i' b' d' ∧ 0 ≤ r := by
  rw [c_succ (n + 1) 7 f_law_base rfl]
  refine run_ret (pad := [Pool ns i b d]) rfl rfl ?_
  show Wp (exs (Γ (n + 1)) [0] f_law_base.body _) _
  refine wp_imp (Q := fun f s => ∃ i' b' d' r, f = .rt (.sh (.int r)) ∧ s = [Pool ns i' b' d'] ∧ PoolOk i' b' d' ∧ 0 ≤ r) ?_ fun f s ⟨i', b', d', r, e1, e2, h1, h2⟩ => ?_
  · have dr := c_draw n ns i b d 3 h (by decide) (by decide)
    unfold f_law_base Pool
    unfold Pool at dr
    repeat (first | rw [wx_cons] | rw [wx_nil] | rw [wx_ifs] | rw [wx_set] | rw [wx_setT] | rw [w_asgF] | rw [wx_ret] | rw [wx_retN] | rw [wx_app] | rw [wx_setIx] | rw [w_setIxR] | rw [wx_aug] | rw [wx_augIx] | rw [wx_expr] | rw [wx_par2] | rw [wx_par3] | rw [w_setV] | rw [wx_pass] | rw [wx_brk] | rw [wx_cont] | rw [wt_and] | rw [wt_or] | rw [wt_not] | rw [wt_var] | rw [wt_cmp] | rw [wt_chn] | rw [wt_isN] | rw [wt_inn] | rw [wt_call] | rw [wt_bi] | rw [wt_ix] | rw [wt_isi] | rw [we_int] | rw [we_bl] | rw [we_non] | rw [we_str] | rw [we_var] | rw [we_glb] | rw [we_tup] | rw [we_lst] | rw [we_bin] | rw [we_neg] | rw [we_cmp] | rw [we_isN] | rw [we_inn] | rw [we_not] | rw [we_and] | rw [we_or] | rw [we_ite] | rw [we_ix] | rw [we_sl] | rw [we_rev] | rw [we_call] | rw [we_bi] | rw [we_isi] | rw [ws_nil] | rw [ws_cons] | rw [wP_one] | rw [wP_more] | rw [wA_nil] | rw [wA_cons] | rw [wo_no] | rw [wo_yes] | rw [w_late] | rw [w_peek] | rw [w_arg] | rw [w_frz] | rw [w_intR] | rw [wCall_some] | rw [wLate_n] | rw [wLate_v] | rw [wPeek_n] | rw [wPeek_v] | rw [wArg_n] | rw [wArg_v] | rw [wr_seq] | rw [wr_enum] | rw [wr_rng] | rw [wr_rng2] | rw [wOpen_v] | rw [wOpen_n] | rw [w_open] | rw [wx_for] | rw [w_turn] | rw [we_comp] | rw [w_bodyC] | rw [wp_opt] | rw [wp_bind] | (simp only [wp_ok, wO_some, wI_int, wB_t, wB_f, wF_nx, wF_rt, wF_bk, wF_ct, wV_sh, wV_lst, wL_lst, get_zero, get_succ, set_zero, set_succ, gv_zero, gv_succ, pv_sh, pv_lst, own_sh, own_lst, isV_var, truth_bl, truth_int, c_lt, c_le, c_gt, c_ge, c_eq, c_ne, o_add, o_sub, len_lst, len_tup, Bool.false_and, Bool.true_and, Bool.and_false, Bool.and_true, isV, tk_v, tk_n, tk_0, tk_1, pu_v, pu_n, pu_0, pu_1, Option.map_some, List.length_cons, List.length_nil, List.contains_cons, List.contains_nil, Bool.or_false, Bool.not_false, Bool.not_true, decide_true, decide_false, Nat.zero_add, Nat.reduceAdd, Nat.reduceLT, Nat.reduceBEq, lockCs_n, lockO_n, unlock_n, lockCs_s, lockO_s, unlock_s, slots_v, slots_t, slots_n, slots_c, asg_t, asgs_n, asgs_c, asg_v', List.singleton_append, List.append_nil, List.all_cons, List.all_nil, Option.bind_some, Bool.false_eq_true, if_false, if_true, pow25, cst6, rho_c]))
    refine wp_imp dr fun v o ⟨i', b', d', r, e1, e2, h1, h2, h3⟩ => ?_
    subst e1 e2
    obtain ⟨z, ez, hz⟩ := ix3 (.int 0) (.int 7) (.int 10000000000000000000000000) r h2 h3
    rw [pv_sh, wO_some, ez, wO_some]
    rcases hz with rfl | rfl | rfl
    · exact ⟨i', b', d', _, rfl, rfl, h1, by decide⟩
    · exact ⟨i', b', d', _, rfl, rfl, h1, by decide⟩
    · exact ⟨i', b', d', _, rfl, rfl, h1, by decide⟩
  · subst e1 e2
    exact ⟨i', b', d', r, rfl, rfl, h1, h2⟩
end PF.K51
set_option Elab.async false
set_option linter.all false
set_option maxRecDepth 1000000
set_option maxHeartbeats 4000000
namespace PF.K51
open PySem PySem.Spec PyProof.Rows PF
abbrev tTurn : Tx := [116, 117, 114, 110]
abbrev tMir : Tx := [109, 105, 114, 114, 111, 114]
abbrev tCut : Tx := [99, 117, 116]
abbrev tAdd : Tx := [97, 100, 100]
abbrev tTop : Tx := [116, 111, 112]
abbrev tRight : Tx := [114, 105, 103, 104, 116]
abbrev tBot : Tx := [98, 111, 116, 116, 111, 109]
abbrev tLeft : Tx := [108, 101, 102, 116]
inductive Sd where | top | right | bot | left
def Sd.tx : Sd → Tx
  | .top => tTop
  | .right => tRight
  | .bot => tBot
  | .left => tLeft
/-- a step -/
inductive Stp where | turn | mir | cut (s : Sd) | add (s : Sd) (k : Int)
def Stp.pv : Stp → PV
  | .turn => .tup [.str tTurn]
  | .mir => .tup [.str tMir]
  | .cut s => .tup [.str tCut, .str s.tx]
  | .add s k => .tup [.str tAdd, .str s.tx, .int k]
def Stp.ok : Stp → Prop
  | .add _ k => 0 ≤ k
  | _ => True
theorem c_is_side (n : Nat) (s : Sd) : c (n + 1) 2 [.sh (.str s.tx)] = .ok (.sh (.bl true)) [.emp] := by cases s <;> rfl
theorem c_is_step (n : Nat) (t : Stp) (h : t.ok) : c (n + 4) 3 [.sh t.pv] = .ok (.sh (.bl true)) [.emp] := by
  cases t with
  | turn => rfl
  | mir => rfl
  | cut s => cases s <;> rfl
  | add s k =>
    have e : decide ((0 : Int) ≤ k) = true := decide_eq_true h
    have q : c (n + 4) 3 [.sh (Stp.add s k).pv] = .ok (.sh (.bl (decide ((0 : Int) ≤ k)))) [.emp] := by cases s <;> rfl
    rw [q, e]
theorem glb1 (n : Nat) : (Γ n).glb 1 = some (.int 200) := rfl
theorem stps_get {ts : List Stp} {i : Nat} {v : PV} (h : (enumL 0 (ts.map Stp.pv))[i]? = some v) : ∃ t, t ∈ ts ∧ v = .tup [.int (i : Nat), t.pv] := by
  obtain ⟨x, e, rfl⟩ := enumL_get h
  rw [List.getElem?_map] at e
  cases q : ts[i]? with
  | none => rw [q] at e; cases e
  | some t =>
    rw [q] at e; cases e
    exact ⟨t, List.mem_of_getElem? q, by rw [Nat.zero_add]⟩
theorem c_check (n : Nat) (ts : List Stp) (hok : ∀ t, t ∈ ts → t.ok) (hl : ts.length ≤ 200) (v : PV) (hv : v = .lst (ts.map Stp.pv) ∨ v = .tup (ts.map Stp.pv)) : c (n + 5) 4 [.sh v] = .ok (.sh .non) [.emp] := by
  rw [c_succ (n + 4) 4 f_check_steps rfl]
  refine wp_eq (run_ret (pad := [.sh v, .emp, .emp]) rfl rfl ?_)
  show Wp (exs (Γ (n + 4)) [] f_check_steps.body _) _
  refine wp_imp (Q := fun f s => f = .nx ∧ ∃ x y, s = [.sh v, x, y]) ?_ fun f s ⟨e1, x, y, e2⟩ => by subst e1 e2; exact ⟨rfl, rfl⟩
  have hlen : bi .len [v] = some (.sh (.int ts.length)) := by
    rcases hv with rfl | rfl
    · rw [len_lst, List.length_map]
    · rw [len_tup, List.length_map]
  have hit : items v = some (ts.map Stp.pv) := by rcases hv with rfl | rfl <;> rfl
  have hty : ([Ty.list, Ty.tuple].any fun t => isTy t v) = true := by rcases hv with rfl | rfl <;> rfl
  have hle : decide ((200 : Int) < ((ts.length : Nat) : Int)) = false := decide_eq_false (by omega)
  unfold f_check_steps
  repeat (first | rw [wx_cons] | rw [wx_nil] | rw [wx_ifs] | rw [wx_set] | rw [wx_setT] | rw [w_asgF] | rw [wx_ret] | rw [wx_retN] | rw [wx_app] | rw [wx_setIx] | rw [w_setIxR] | rw [wx_aug] | rw [wx_augIx] | rw [wx_expr] | rw [wx_par2] | rw [wx_par3] | rw [w_setV] | rw [wx_pass] | rw [wx_brk] | rw [wx_cont] | rw [wt_and] | rw [wt_or] | rw [wt_not] | rw [wt_var] | rw [wt_cmp] | rw [wt_chn] | rw [wt_isN] | rw [wt_inn] | rw [wt_call] | rw [wt_bi] | rw [wt_ix] | rw [wt_isi] | rw [we_int] | rw [we_bl] | rw [we_non] | rw [we_str] | rw [we_var] | rw [we_glb] | rw [we_tup] | rw [we_lst] | rw [we_bin] | rw [we_neg] | rw [we_cmp] | rw [we_isN] | rw [we_inn] | rw [we_not] | rw [we_and] | rw [we_or] | rw [we_ite] | rw [we_ix] | rw [we_sl] | rw [we_rev] | rw [we_call] | rw [we_bi] | rw [we_isi] | rw [ws_nil] | rw [ws_cons] | rw [wP_one] | rw [wP_more] | rw [wA_nil] | rw [wA_cons] | rw [wo_no] | rw [wo_yes] | rw [w_late] | rw [w_peek] | rw [w_arg] | rw [w_frz] | rw [w_intR] | rw [wCall_some] | rw [wLate_n] | rw [wLate_v] | rw [wPeek_n] | rw [wPeek_v] | rw [wArg_n] | rw [wArg_v] | rw [wr_seq] | rw [wr_enum] | rw [wr_rng] | rw [wr_rng2] | rw [wOpen_v] | rw [wOpen_n] | rw [w_open] | rw [wx_for] | rw [w_turn] | rw [we_comp] | rw [w_bodyC] | rw [wp_opt] | rw [wp_bind] | (simp only [wp_ok, wO_some, wI_int, wB_t, wB_f, wF_nx, wF_rt, wF_bk, wF_ct, wV_sh, wV_lst, wL_lst, get_zero, get_succ, set_zero, set_succ, gv_zero, gv_succ, pv_sh, pv_lst, own_sh, own_lst, isV_var, truth_bl, truth_int, c_lt, c_le, c_gt, c_ge, c_eq, c_ne, o_add, o_sub, len_lst, len_tup, Bool.false_and, Bool.true_and, Bool.and_false, Bool.and_true, isV, tk_v, tk_n, tk_0, tk_1, pu_v, pu_n, pu_0, pu_1, Option.map_some, List.length_cons, List.length_nil, List.contains_cons, List.contains_nil, Bool.or_false, Bool.not_false, Bool.not_true, decide_true, decide_false, Nat.zero_add, Nat.reduceAdd, Nat.reduceLT, Nat.reduceBEq, lockCs_n, lockO_n, unlock_n, lockCs_s, lockO_s, unlock_s, slots_v, slots_t, slots_n, slots_c, asg_t, asgs_n, asgs_c, asg_v', List.singleton_append, List.append_nil, List.all_cons, List.all_nil, Option.bind_some, Bool.false_eq_true, if_false, if_true, hlen, hty, glb1, hle, hit]))
  refine wp_forL (fun _ s => ∃ x y, s = [.sh v, x, y]) ⟨.emp, .emp, rfl⟩ (fun s ⟨x, y, e⟩ => ?_) fun i z s hz ⟨x, y, e⟩ => ?_
  · subst e
    repeat (first | rw [wx_cons] | rw [wx_nil] | rw [wx_ifs] | rw [wx_set] | rw [wx_setT] | rw [w_asgF] | rw [wx_ret] | rw [wx_retN] | rw [wx_app] | rw [wx_setIx] | rw [w_setIxR] | rw [wx_aug] | rw [wx_augIx] | rw [wx_expr] | rw [wx_par2] | rw [wx_par3] | rw [w_setV] | rw [wx_pass] | rw [wx_brk] | rw [wx_cont] | rw [wt_and] | rw [wt_or] | rw [wt_not] | rw [wt_var] | rw [wt_cmp] | rw [wt_chn] | rw [wt_isN] | rw [wt_inn] | rw [wt_call] | rw [wt_bi] | rw [wt_ix] | rw [wt_isi] | rw [we_int] | rw [we_bl] | rw [we_non] | rw [we_str] | rw [we_var] | rw [we_glb] | rw [we_tup] | rw [we_lst] | rw [we_bin] | rw [we_neg] | rw [we_cmp] | rw [we_isN] | rw [we_inn] | rw [we_not] | rw [we_and] | rw [we_or] | rw [we_ite] | rw [we_ix] | rw [we_sl] | rw [we_rev] | rw [we_call] | rw [we_bi] | rw [we_isi] | rw [ws_nil] | rw [ws_cons] | rw [wP_one] | rw [wP_more] | rw [wA_nil] | rw [wA_cons] | rw [wo_no] | rw [wo_yes] | rw [w_late] | rw [w_peek] | rw [w_arg] | rw [w_frz] | rw [w_intR] | rw [wCall_some] | rw [wLate_n] | rw [wLate_v] | rw [wPeek_n] | rw [wPeek_v] | rw [wArg_n] | rw [wArg_v] | rw [wr_seq] | rw [wr_enum] | rw [wr_rng] | rw [wr_rng2] | rw [wOpen_v] | rw [wOpen_n] | rw [w_open] | rw [wx_for] | rw [w_turn] | rw [we_comp] | rw [w_bodyC] | rw [wp_opt] | rw [wp_bind] | (simp only [wp_ok, wO_some, wI_int, wB_t, wB_f, wF_nx, wF_rt, wF_bk, wF_ct, wV_sh, wV_lst, wL_lst, get_zero, get_succ, set_zero, set_succ, gv_zero, gv_succ, pv_sh, pv_lst, own_sh, own_lst, isV_var, truth_bl, truth_int, c_lt, c_le, c_gt, c_ge, c_eq, c_ne, o_add, o_sub, len_lst, len_tup, Bool.false_and, Bool.true_and, Bool.and_false, Bool.and_true, isV, tk_v, tk_n, tk_0, tk_1, pu_v, pu_n, pu_0, pu_1, Option.map_some, List.length_cons, List.length_nil, List.contains_cons, List.contains_nil, Bool.or_false, Bool.not_false, Bool.not_true, decide_true, decide_false, Nat.zero_add, Nat.reduceAdd, Nat.reduceLT, Nat.reduceBEq, lockCs_n, lockO_n, unlock_n, lockCs_s, lockO_s, unlock_s, slots_v, slots_t, slots_n, slots_c, asg_t, asgs_n, asgs_c, asg_v', List.singleton_append, List.append_nil, List.all_cons, List.all_nil, Option.bind_some, Bool.false_eq_true, if_false, if_true]))
    exact ⟨trivial, x, y, rfl⟩
  · subst e
    obtain ⟨t, ht, rfl⟩ := stps_get hz
    have q := c_is_step n t (hok t ht)
    repeat (first | rw [wx_cons] | rw [wx_nil] | rw [wx_ifs] | rw [wx_set] | rw [wx_setT] | rw [w_asgF] | rw [wx_ret] | rw [wx_retN] | rw [wx_app] | rw [wx_setIx] | rw [w_setIxR] | rw [wx_aug] | rw [wx_augIx] | rw [wx_expr] | rw [wx_par2] | rw [wx_par3] | rw [w_setV] | rw [wx_pass] | rw [wx_brk] | rw [wx_cont] | rw [wt_and] | rw [wt_or] | rw [wt_not] | rw [wt_var] | rw [wt_cmp] | rw [wt_chn] | rw [wt_isN] | rw [wt_inn] | rw [wt_call] | rw [wt_bi] | rw [wt_ix] | rw [wt_isi] | rw [we_int] | rw [we_bl] | rw [we_non] | rw [we_str] | rw [we_var] | rw [we_glb] | rw [we_tup] | rw [we_lst] | rw [we_bin] | rw [we_neg] | rw [we_cmp] | rw [we_isN] | rw [we_inn] | rw [we_not] | rw [we_and] | rw [we_or] | rw [we_ite] | rw [we_ix] | rw [we_sl] | rw [we_rev] | rw [we_call] | rw [we_bi] | rw [we_isi] | rw [ws_nil] | rw [ws_cons] | rw [wP_one] | rw [wP_more] | rw [wA_nil] | rw [wA_cons] | rw [wo_no] | rw [wo_yes] | rw [w_late] | rw [w_peek] | rw [w_arg] | rw [w_frz] | rw [w_intR] | rw [wCall_some] | rw [wLate_n] | rw [wLate_v] | rw [wPeek_n] | rw [wPeek_v] | rw [wArg_n] | rw [wArg_v] | rw [wr_seq] | rw [wr_enum] | rw [wr_rng] | rw [wr_rng2] | rw [wOpen_v] | rw [wOpen_n] | rw [w_open] | rw [wx_for] | rw [w_turn] | rw [we_comp] | rw [w_bodyC] | rw [wp_opt] | rw [wp_bind] | (simp only [wp_ok, wO_some, wI_int, wB_t, wB_f, wF_nx, wF_rt, wF_bk, wF_ct, wV_sh, wV_lst, wL_lst, get_zero, get_succ, set_zero, set_succ, gv_zero, gv_succ, pv_sh, pv_lst, own_sh, own_lst, isV_var, truth_bl, truth_int, c_lt, c_le, c_gt, c_ge, c_eq, c_ne, o_add, o_sub, len_lst, len_tup, Bool.false_and, Bool.true_and, Bool.and_false, Bool.and_true, isV, tk_v, tk_n, tk_0, tk_1, pu_v, pu_n, pu_0, pu_1, Option.map_some, List.length_cons, List.length_nil, List.contains_cons, List.contains_nil, Bool.or_false, Bool.not_false, Bool.not_true, decide_true, decide_false, Nat.zero_add, Nat.reduceAdd, Nat.reduceLT, Nat.reduceBEq, lockCs_n, lockO_n, unlock_n, lockCs_s, lockO_s, unlock_s, slots_v, slots_t, slots_n, slots_c, asg_t, asgs_n, asgs_c, asg_v', List.singleton_append, List.append_nil, List.all_cons, List.all_nil, Option.bind_some, Bool.false_eq_true, if_false, if_true, rho_c, q, cst3]))
    exact ⟨_, _, rfl⟩
end PF.K51
set_option Elab.async false
set_option linter.all false
set_option maxRecDepth 1000000
set_option maxHeartbeats 4000000
namespace PF.K51
open PySem PySem.Spec PyProof.Rows PF
def Sd.vert : Sd → Bool
  | .top => true
  | .bot => true
  | _ => false
def b2i (q : Bool) : Int := if q then 1 else 0
structure Rz where
  q : Bool
  n0 : Int
  n1 : Int
  c0 : Int
  c1 : Int
def mx (a b : Int) : Int := if b > a then b else a
def Rz.hit (r : Rz) (v : Bool) (d : Int) : Rz := match v != r.q with
  | true => { r with c0 := r.c0 + d, n0 := mx r.n0 (1 - (r.c0 + d)) }
  | false => { r with c1 := r.c1 + d, n1 := mx r.n1 (1 - (r.c1 + d)) }
def Rz.step (r : Rz) : Stp → Rz
  | .turn => { r with q := !r.q }
  | .mir => r
  | .cut s => r.hit s.vert (-1)
  | .add s _ => r.hit s.vert 1
def rz0 : Rz := ⟨false, 1, 1, 0, 0⟩
def rzs (ts : List Stp) : Rz := ts.foldl Rz.step rz0
theorem x_turn (v : PV) : (cmpop .eq (.str tTurn) (.str tTurn) = some true) ∧ (cmpop .eq (.str tMir) (.str tTurn) = some false) ∧ (cmpop .eq (.str tCut) (.str tTurn) = some false) ∧ (cmpop .eq (.str tAdd) (.str tTurn) = some false) := ⟨rfl, rfl, rfl, rfl⟩
theorem e1 : cmpop .eq (.str tTurn) (.str tTurn) = some true := rfl
theorem e2 : cmpop .eq (.str tMir) (.str tTurn) = some false := rfl
theorem e3 : cmpop .eq (.str tCut) (.str tTurn) = some false := rfl
theorem e4 : cmpop .eq (.str tAdd) (.str tTurn) = some false := rfl
theorem e5 : cmpop .ne (.str tMir) (.str tMir) = some false := rfl
theorem e6 : cmpop .ne (.str tCut) (.str tMir) = some true := rfl
theorem e7 : cmpop .ne (.str tAdd) (.str tMir) = some true := rfl
theorem e8 : cmpop .eq (.str tCut) (.str tAdd) = some false := rfl
theorem e9 : cmpop .eq (.str tAdd) (.str tAdd) = some true := rfl
theorem i1 (a : PV) : index (.tup [a]) (.int 0) = some a := rfl
theorem i2 (a b : PV) : index (.tup [a, b]) (.int 0) = some a := rfl
theorem i3 (a b d : PV) : index (.tup [a, b, d]) (.int 0) = some a := rfl
theorem i4 (a b : PV) : index (.tup [a, b]) (.int 1) = some b := rfl
theorem i5 (a b d : PV) : index (.tup [a, b, d]) (.int 1) = some b := rfl
theorem i6 (a b : PV) : index (.lst [a, b]) (.int 0) = some a := rfl
theorem i7 (a b : PV) : index (.lst [a, b]) (.int 1) = some b := rfl
theorem in_tb (s : Sd) : inop (.str s.tx) (.tup [.str tTop, .str tBot]) = some s.vert := by cases s <;> rfl
theorem x0 (a b : PV) : idxO (.lst [a, b]) 0 = some a := rfl
theorem x1 (a b : PV) : idxO (.lst [a, b]) 1 = some b := rfl
theorem ag (a b : Int) : augop .add a b = some (a + b) := rfl
theorem mx2 (a b : Int) : bi .max2 [.int a, .int b] = some (.sh (.int (mx a b))) := rfl
theorem n0 : ixN 2 0 = some 0 := rfl
theorem n1 : ixN 2 1 = some 1 := rfl
theorem sb0 : (1 : Int) - 0 = 1 := rfl
theorem sb1 : (1 : Int) - 1 = 0 := rfl
theorem ls0 (a b d : PV) : [a, b].set 0 d = [d, b] := rfl
theorem ls1 (a b d : PV) : [a, b].set 1 d = [a, d] := rfl
theorem bt (a b : PV) : bi .tuple [.lst [a, b]] = some (.sh (.tup [a, b])) := rfl
def szBody : Sts := match f_running_size.body with
  | .cons _ (.cons _ (.cons (.for_ _ _ b) _)) => b
  | _ => .nil
def SzS (v : PV) (r : Rz) (s : S) : Prop := ∃ x y, s = [.sh v, x, .lst [.int r.n0, .int r.n1], .lst [.int r.c0, .int r.c1], .sh (.int (b2i r.q)), y]
theorem sz_turn (n : Nat) (v : PV) (r : Rz) (t : Stp) (y : OV) : Wp (exs (Γ n) [] szBody [.sh v, .sh t.pv, .lst [.int r.n0, .int r.n1], .lst [.int r.c0, .int r.c1], .sh (.int (b2i r.q)), y]) fun f s => f = .nx ∧ SzS v (r.step t) s := by
  obtain ⟨q, m0, m1, d0, d1⟩ := r
  have hb : szBody = szBody := rfl
  unfold szBody f_running_size
  dsimp only
  cases t with
  | turn =>
    unfold Stp.pv
    cases q
    · rw [show b2i false = 0 from rfl]
      repeat (first | rw [wx_cons] | rw [wx_nil] | rw [wx_ifs] | rw [wx_set] | rw [wx_setT] | rw [w_asgF] | rw [wx_ret] | rw [wx_retN] | rw [wx_app] | rw [wx_setIx] | rw [w_setIxR] | rw [wx_aug] | rw [wx_augIx] | rw [wx_expr] | rw [wx_par2] | rw [wx_par3] | rw [w_setV] | rw [wx_pass] | rw [wx_brk] | rw [wx_cont] | rw [wt_and] | rw [wt_or] | rw [wt_not] | rw [wt_var] | rw [wt_cmp] | rw [wt_chn] | rw [wt_isN] | rw [wt_inn] | rw [wt_call] | rw [wt_bi] | rw [wt_ix] | rw [wt_isi] | rw [we_int] | rw [we_bl] | rw [we_non] | rw [we_str] | rw [we_var] | rw [we_glb] | rw [we_tup] | rw [we_lst] | rw [we_bin] | rw [we_neg] | rw [we_cmp] | rw [we_isN] | rw [we_inn] | rw [we_not] | rw [we_and] | rw [we_or] | rw [we_ite] | rw [we_ix] | rw [we_sl] | rw [we_rev] | rw [we_call] | rw [we_bi] | rw [we_isi] | rw [ws_nil] | rw [ws_cons] | rw [wP_one] | rw [wP_more] | rw [wA_nil] | rw [wA_cons] | rw [wo_no] | rw [wo_yes] | rw [w_late] | rw [w_peek] | rw [w_arg] | rw [w_frz] | rw [w_intR] | rw [wCall_some] | rw [wLate_n] | rw [wLate_v] | rw [wPeek_n] | rw [wPeek_v] | rw [wArg_n] | rw [wArg_v] | rw [wr_seq] | rw [wr_enum] | rw [wr_rng] | rw [wr_rng2] | rw [wOpen_v] | rw [wOpen_n] | rw [w_open] | rw [wx_for] | rw [w_turn] | rw [we_comp] | rw [w_bodyC] | rw [wp_opt] | rw [wp_bind] | (simp only [wp_ok, wO_some, wI_int, wB_t, wB_f, wF_nx, wF_rt, wF_bk, wF_ct, wV_sh, wV_lst, wL_lst, get_zero, get_succ, set_zero, set_succ, gv_zero, gv_succ, pv_sh, pv_lst, own_sh, own_lst, isV_var, truth_bl, truth_int, c_lt, c_le, c_gt, c_ge, c_eq, c_ne, o_add, o_sub, len_lst, len_tup, Bool.false_and, Bool.true_and, Bool.and_false, Bool.and_true, isV, tk_v, tk_n, tk_0, tk_1, pu_v, pu_n, pu_0, pu_1, Option.map_some, List.length_cons, List.length_nil, List.contains_cons, List.contains_nil, Bool.or_false, Bool.not_false, Bool.not_true, decide_true, decide_false, Nat.zero_add, Nat.reduceAdd, Nat.reduceLT, Nat.reduceBEq, lockCs_n, lockO_n, unlock_n, lockCs_s, lockO_s, unlock_s, slots_v, slots_t, slots_n, slots_c, asg_t, asgs_n, asgs_c, asg_v', List.singleton_append, List.append_nil, List.all_cons, List.all_nil, Option.bind_some, Bool.false_eq_true, if_false, if_true, i1, e1, sb0, sb1]))
      exact ⟨trivial, _, _, rfl⟩
    · rw [show b2i true = 1 from rfl]
      repeat (first | rw [wx_cons] | rw [wx_nil] | rw [wx_ifs] | rw [wx_set] | rw [wx_setT] | rw [w_asgF] | rw [wx_ret] | rw [wx_retN] | rw [wx_app] | rw [wx_setIx] | rw [w_setIxR] | rw [wx_aug] | rw [wx_augIx] | rw [wx_expr] | rw [wx_par2] | rw [wx_par3] | rw [w_setV] | rw [wx_pass] | rw [wx_brk] | rw [wx_cont] | rw [wt_and] | rw [wt_or] | rw [wt_not] | rw [wt_var] | rw [wt_cmp] | rw [wt_chn] | rw [wt_isN] | rw [wt_inn] | rw [wt_call] | rw [wt_bi] | rw [wt_ix] | rw [wt_isi] | rw [we_int] | rw [we_bl] | rw [we_non] | rw [we_str] | rw [we_var] | rw [we_glb] | rw [we_tup] | rw [we_lst] | rw [we_bin] | rw [we_neg] | rw [we_cmp] | rw [we_isN] | rw [we_inn] | rw [we_not] | rw [we_and] | rw [we_or] | rw [we_ite] | rw [we_ix] | rw [we_sl] | rw [we_rev] | rw [we_call] | rw [we_bi] | rw [we_isi] | rw [ws_nil] | rw [ws_cons] | rw [wP_one] | rw [wP_more] | rw [wA_nil] | rw [wA_cons] | rw [wo_no] | rw [wo_yes] | rw [w_late] | rw [w_peek] | rw [w_arg] | rw [w_frz] | rw [w_intR] | rw [wCall_some] | rw [wLate_n] | rw [wLate_v] | rw [wPeek_n] | rw [wPeek_v] | rw [wArg_n] | rw [wArg_v] | rw [wr_seq] | rw [wr_enum] | rw [wr_rng] | rw [wr_rng2] | rw [wOpen_v] | rw [wOpen_n] | rw [w_open] | rw [wx_for] | rw [w_turn] | rw [we_comp] | rw [w_bodyC] | rw [wp_opt] | rw [wp_bind] | (simp only [wp_ok, wO_some, wI_int, wB_t, wB_f, wF_nx, wF_rt, wF_bk, wF_ct, wV_sh, wV_lst, wL_lst, get_zero, get_succ, set_zero, set_succ, gv_zero, gv_succ, pv_sh, pv_lst, own_sh, own_lst, isV_var, truth_bl, truth_int, c_lt, c_le, c_gt, c_ge, c_eq, c_ne, o_add, o_sub, len_lst, len_tup, Bool.false_and, Bool.true_and, Bool.and_false, Bool.and_true, isV, tk_v, tk_n, tk_0, tk_1, pu_v, pu_n, pu_0, pu_1, Option.map_some, List.length_cons, List.length_nil, List.contains_cons, List.contains_nil, Bool.or_false, Bool.not_false, Bool.not_true, decide_true, decide_false, Nat.zero_add, Nat.reduceAdd, Nat.reduceLT, Nat.reduceBEq, lockCs_n, lockO_n, unlock_n, lockCs_s, lockO_s, unlock_s, slots_v, slots_t, slots_n, slots_c, asg_t, asgs_n, asgs_c, asg_v', List.singleton_append, List.append_nil, List.all_cons, List.all_nil, Option.bind_some, Bool.false_eq_true, if_false, if_true, i1, e1, sb0, sb1]))
      exact ⟨trivial, _, _, rfl⟩
  | mir =>
    unfold Stp.pv
    repeat (first | rw [wx_cons] | rw [wx_nil] | rw [wx_ifs] | rw [wx_set] | rw [wx_setT] | rw [w_asgF] | rw [wx_ret] | rw [wx_retN] | rw [wx_app] | rw [wx_setIx] | rw [w_setIxR] | rw [wx_aug] | rw [wx_augIx] | rw [wx_expr] | rw [wx_par2] | rw [wx_par3] | rw [w_setV] | rw [wx_pass] | rw [wx_brk] | rw [wx_cont] | rw [wt_and] | rw [wt_or] | rw [wt_not] | rw [wt_var] | rw [wt_cmp] | rw [wt_chn] | rw [wt_isN] | rw [wt_inn] | rw [wt_call] | rw [wt_bi] | rw [wt_ix] | rw [wt_isi] | rw [we_int] | rw [we_bl] | rw [we_non] | rw [we_str] | rw [we_var] | rw [we_glb] | rw [we_tup] | rw [we_lst] | rw [we_bin] | rw [we_neg] | rw [we_cmp] | rw [we_isN] | rw [we_inn] | rw [we_not] | rw [we_and] | rw [we_or] | rw [we_ite] | rw [we_ix] | rw [we_sl] | rw [we_rev] | rw [we_call] | rw [we_bi] | rw [we_isi] | rw [ws_nil] | rw [ws_cons] | rw [wP_one] | rw [wP_more] | rw [wA_nil] | rw [wA_cons] | rw [wo_no] | rw [wo_yes] | rw [w_late] | rw [w_peek] | rw [w_arg] | rw [w_frz] | rw [w_intR] | rw [wCall_some] | rw [wLate_n] | rw [wLate_v] | rw [wPeek_n] | rw [wPeek_v] | rw [wArg_n] | rw [wArg_v] | rw [wr_seq] | rw [wr_enum] | rw [wr_rng] | rw [wr_rng2] | rw [wOpen_v] | rw [wOpen_n] | rw [w_open] | rw [wx_for] | rw [w_turn] | rw [we_comp] | rw [w_bodyC] | rw [wp_opt] | rw [wp_bind] | (simp only [wp_ok, wO_some, wI_int, wB_t, wB_f, wF_nx, wF_rt, wF_bk, wF_ct, wV_sh, wV_lst, wL_lst, get_zero, get_succ, set_zero, set_succ, gv_zero, gv_succ, pv_sh, pv_lst, own_sh, own_lst, isV_var, truth_bl, truth_int, c_lt, c_le, c_gt, c_ge, c_eq, c_ne, o_add, o_sub, len_lst, len_tup, Bool.false_and, Bool.true_and, Bool.and_false, Bool.and_true, isV, tk_v, tk_n, tk_0, tk_1, pu_v, pu_n, pu_0, pu_1, Option.map_some, List.length_cons, List.length_nil, List.contains_cons, List.contains_nil, Bool.or_false, Bool.not_false, Bool.not_true, decide_true, decide_false, Nat.zero_add, Nat.reduceAdd, Nat.reduceLT, Nat.reduceBEq, lockCs_n, lockO_n, unlock_n, lockCs_s, lockO_s, unlock_s, slots_v, slots_t, slots_n, slots_c, asg_t, asgs_n, asgs_c, asg_v', List.singleton_append, List.append_nil, List.all_cons, List.all_nil, Option.bind_some, Bool.false_eq_true, if_false, if_true, i1, e2, e5]))
    exact ⟨trivial, _, _, rfl⟩
  | cut s =>
    unfold Stp.pv
    cases q <;> cases hv : s.vert
    all_goals (first | rw [show b2i false = 0 from rfl] | rw [show b2i true = 1 from rfl])
    all_goals (repeat (first | rw [wx_cons] | rw [wx_nil] | rw [wx_ifs] | rw [wx_set] | rw [wx_setT] | rw [w_asgF] | rw [wx_ret] | rw [wx_retN] | rw [wx_app] | rw [wx_setIx] | rw [w_setIxR] | rw [wx_aug] | rw [wx_augIx] | rw [wx_expr] | rw [wx_par2] | rw [wx_par3] | rw [w_setV] | rw [wx_pass] | rw [wx_brk] | rw [wx_cont] | rw [wt_and] | rw [wt_or] | rw [wt_not] | rw [wt_var] | rw [wt_cmp] | rw [wt_chn] | rw [wt_isN] | rw [wt_inn] | rw [wt_call] | rw [wt_bi] | rw [wt_ix] | rw [wt_isi] | rw [we_int] | rw [we_bl] | rw [we_non] | rw [we_str] | rw [we_var] | rw [we_glb] | rw [we_tup] | rw [we_lst] | rw [we_bin] | rw [we_neg] | rw [we_cmp] | rw [we_isN] | rw [we_inn] | rw [we_not] | rw [we_and] | rw [we_or] | rw [we_ite] | rw [we_ix] | rw [we_sl] | rw [we_rev] | rw [we_call] | rw [we_bi] | rw [we_isi] | rw [ws_nil] | rw [ws_cons] | rw [wP_one] | rw [wP_more] | rw [wA_nil] | rw [wA_cons] | rw [wo_no] | rw [wo_yes] | rw [w_late] | rw [w_peek] | rw [w_arg] | rw [w_frz] | rw [w_intR] | rw [wCall_some] | rw [wLate_n] | rw [wLate_v] | rw [wPeek_n] | rw [wPeek_v] | rw [wArg_n] | rw [wArg_v] | rw [wr_seq] | rw [wr_enum] | rw [wr_rng] | rw [wr_rng2] | rw [wOpen_v] | rw [wOpen_n] | rw [w_open] | rw [wx_for] | rw [w_turn] | rw [we_comp] | rw [w_bodyC] | rw [wp_opt] | rw [wp_bind] | (simp only [wp_ok, wO_some, wI_int, wB_t, wB_f, wF_nx, wF_rt, wF_bk, wF_ct, wV_sh, wV_lst, wL_lst, get_zero, get_succ, set_zero, set_succ, gv_zero, gv_succ, pv_sh, pv_lst, own_sh, own_lst, isV_var, truth_bl, truth_int, c_lt, c_le, c_gt, c_ge, c_eq, c_ne, o_add, o_sub, len_lst, len_tup, Bool.false_and, Bool.true_and, Bool.and_false, Bool.and_true, isV, tk_v, tk_n, tk_0, tk_1, pu_v, pu_n, pu_0, pu_1, Option.map_some, List.length_cons, List.length_nil, List.contains_cons, List.contains_nil, Bool.or_false, Bool.not_false, Bool.not_true, decide_true, decide_false, Nat.zero_add, Nat.reduceAdd, Nat.reduceLT, Nat.reduceBEq, lockCs_n, lockO_n, unlock_n, lockCs_s, lockO_s, unlock_s, slots_v, slots_t, slots_n, slots_c, asg_t, asgs_n, asgs_c, asg_v', List.singleton_append, List.append_nil, List.all_cons, List.all_nil, Option.bind_some, Bool.false_eq_true, if_false, if_true, i2, i4, e3, e6, e8, in_tb, hv, bne_self_eq_false, Bool.bne_false, Bool.bne_true, sb0, sb1, x0, x1, ag, i6, i7, mx2, n0, n1, ls0, ls1])))
    all_goals (refine ⟨trivial, ?_⟩; unfold SzS Rz.step Rz.hit; simp only [hv]; exact ⟨_, _, rfl⟩)
  | add s k =>
    unfold Stp.pv
    cases q <;> cases hv : s.vert
    all_goals (first | rw [show b2i false = 0 from rfl] | rw [show b2i true = 1 from rfl])
    all_goals (repeat (first | rw [wx_cons] | rw [wx_nil] | rw [wx_ifs] | rw [wx_set] | rw [wx_setT] | rw [w_asgF] | rw [wx_ret] | rw [wx_retN] | rw [wx_app] | rw [wx_setIx] | rw [w_setIxR] | rw [wx_aug] | rw [wx_augIx] | rw [wx_expr] | rw [wx_par2] | rw [wx_par3] | rw [w_setV] | rw [wx_pass] | rw [wx_brk] | rw [wx_cont] | rw [wt_and] | rw [wt_or] | rw [wt_not] | rw [wt_var] | rw [wt_cmp] | rw [wt_chn] | rw [wt_isN] | rw [wt_inn] | rw [wt_call] | rw [wt_bi] | rw [wt_ix] | rw [wt_isi] | rw [we_int] | rw [we_bl] | rw [we_non] | rw [we_str] | rw [we_var] | rw [we_glb] | rw [we_tup] | rw [we_lst] | rw [we_bin] | rw [we_neg] | rw [we_cmp] | rw [we_isN] | rw [we_inn] | rw [we_not] | rw [we_and] | rw [we_or] | rw [we_ite] | rw [we_ix] | rw [we_sl] | rw [we_rev] | rw [we_call] | rw [we_bi] | rw [we_isi] | rw [ws_nil] | rw [ws_cons] | rw [wP_one] | rw [wP_more] | rw [wA_nil] | rw [wA_cons] | rw [wo_no] | rw [wo_yes] | rw [w_late] | rw [w_peek] | rw [w_arg] | rw [w_frz] | rw [w_intR] | rw [wCall_some] | rw [wLate_n] | rw [wLate_v] | rw [wPeek_n] | rw [wPeek_v] | rw [wArg_n] | rw [wArg_v] | rw [wr_seq] | rw [wr_enum] | rw [wr_rng] | rw [wr_rng2] | rw [wOpen_v] | rw [wOpen_n] | rw [w_open] | rw [wx_for] | rw [w_turn] | rw [we_comp] | rw [w_bodyC] | rw [wp_opt] | rw [wp_bind] | (simp only [wp_ok, wO_some, wI_int, wB_t, wB_f, wF_nx, wF_rt, wF_bk, wF_ct, wV_sh, wV_lst, wL_lst, get_zero, get_succ, set_zero, set_succ, gv_zero, gv_succ, pv_sh, pv_lst, own_sh, own_lst, isV_var, truth_bl, truth_int, c_lt, c_le, c_gt, c_ge, c_eq, c_ne, o_add, o_sub, len_lst, len_tup, Bool.false_and, Bool.true_and, Bool.and_false, Bool.and_true, isV, tk_v, tk_n, tk_0, tk_1, pu_v, pu_n, pu_0, pu_1, Option.map_some, List.length_cons, List.length_nil, List.contains_cons, List.contains_nil, Bool.or_false, Bool.not_false, Bool.not_true, decide_true, decide_false, Nat.zero_add, Nat.reduceAdd, Nat.reduceLT, Nat.reduceBEq, lockCs_n, lockO_n, unlock_n, lockCs_s, lockO_s, unlock_s, slots_v, slots_t, slots_n, slots_c, asg_t, asgs_n, asgs_c, asg_v', List.singleton_append, List.append_nil, List.all_cons, List.all_nil, Option.bind_some, Bool.false_eq_true, if_false, if_true, i3, i5, e4, e7, e9, in_tb, hv, bne_self_eq_false, Bool.bne_false, Bool.bne_true, sb0, sb1, x0, x1, ag, i6, i7, mx2, n0, n1, ls0, ls1])))
    all_goals (refine ⟨trivial, ?_⟩; unfold SzS Rz.step Rz.hit; simp only [hv]; exact ⟨_, _, rfl⟩)
theorem size_body : f_running_size.body = .cons (.expr (.call 4 (.cons (.var 0) .nil)))
  (.cons (.par3 2 3 4 (.lst (.cons (.int 1) (.cons (.int 1) .nil))) (.lst (.cons (.int 0) (.cons (.int 0) .nil))) (.int 0))
  (.cons (.for_ (.v 1) (.seq (.var 0)) szBody)
  (.cons (.ret (.bi .tuple (.cons (.var 2) .nil))) .nil))) := rfl
theorem rzs_snoc (ts : List Stp) (i : Nat) (t : Stp) (h : ts[i]? = some t) : rzs (ts.take (i + 1)) = (rzs (ts.take i)).step t := by
  unfold rzs
  rw [List.take_add_one, h, List.foldl_append]
  rfl
theorem c_size (n : Nat) (ts : List Stp) (hok : ∀ t, t ∈ ts → t.ok) (hl : ts.length ≤ 200) (v : PV) (hv : v = .lst (ts.map Stp.pv) ∨ v = .tup (ts.map Stp.pv)) : c (n + 6) 5 [.sh v] = .ok (.sh (.tup [.int (rzs ts).n0, .int (rzs ts).n1])) [.emp] := by
  rw [c_succ (n + 5) 5 f_running_size rfl]
  refine wp_eq (run_ret (pad := [.sh v, .emp, .emp, .emp, .emp, .emp]) rfl rfl ?_)
  show Wp (exs (Γ (n + 5)) [] f_running_size.body _) _
  refine wp_imp (Q := fun f s => f = .rt (.sh (.tup [.int (rzs ts).n0, .int (rzs ts).n1])) ∧ ∃ x y z a b, s = [.sh v, x, y, z, a, b]) ?_ fun f s ⟨e1, x, y, z, a, b, e2⟩ => by subst e1 e2; exact ⟨rfl, rfl⟩
  have ck := c_check n ts hok hl v hv
  have hit : items v = some (ts.map Stp.pv) := by rcases hv with rfl | rfl <;> rfl
  rw [size_body]
  repeat (first | rw [wx_cons] | rw [wx_nil] | rw [wx_ifs] | rw [wx_set] | rw [wx_setT] | rw [w_asgF] | rw [wx_ret] | rw [wx_retN] | rw [wx_app] | rw [wx_setIx] | rw [w_setIxR] | rw [wx_aug] | rw [wx_augIx] | rw [wx_expr] | rw [wx_par2] | rw [wx_par3] | rw [w_setV] | rw [wx_pass] | rw [wx_brk] | rw [wx_cont] | rw [wt_and] | rw [wt_or] | rw [wt_not] | rw [wt_var] | rw [wt_cmp] | rw [wt_chn] | rw [wt_isN] | rw [wt_inn] | rw [wt_call] | rw [wt_bi] | rw [wt_ix] | rw [wt_isi] | rw [we_int] | rw [we_bl] | rw [we_non] | rw [we_str] | rw [we_var] | rw [we_glb] | rw [we_tup] | rw [we_lst] | rw [we_bin] | rw [we_neg] | rw [we_cmp] | rw [we_isN] | rw [we_inn] | rw [we_not] | rw [we_and] | rw [we_or] | rw [we_ite] | rw [we_ix] | rw [we_sl] | rw [we_rev] | rw [we_call] | rw [we_bi] | rw [we_isi] | rw [ws_nil] | rw [ws_cons] | rw [wP_one] | rw [wP_more] | rw [wA_nil] | rw [wA_cons] | rw [wo_no] | rw [wo_yes] | rw [w_late] | rw [w_peek] | rw [w_arg] | rw [w_frz] | rw [w_intR] | rw [wCall_some] | rw [wLate_n] | rw [wLate_v] | rw [wPeek_n] | rw [wPeek_v] | rw [wArg_n] | rw [wArg_v] | rw [wr_seq] | rw [wr_enum] | rw [wr_rng] | rw [wr_rng2] | rw [wOpen_v] | rw [wOpen_n] | rw [w_open] | rw [wx_for] | rw [w_turn] | rw [we_comp] | rw [w_bodyC] | rw [wp_opt] | rw [wp_bind] | (simp only [wp_ok, wO_some, wI_int, wB_t, wB_f, wF_nx, wF_rt, wF_bk, wF_ct, wV_sh, wV_lst, wL_lst, get_zero, get_succ, set_zero, set_succ, gv_zero, gv_succ, pv_sh, pv_lst, own_sh, own_lst, isV_var, truth_bl, truth_int, c_lt, c_le, c_gt, c_ge, c_eq, c_ne, o_add, o_sub, len_lst, len_tup, Bool.false_and, Bool.true_and, Bool.and_false, Bool.and_true, isV, tk_v, tk_n, tk_0, tk_1, pu_v, pu_n, pu_0, pu_1, Option.map_some, List.length_cons, List.length_nil, List.contains_cons, List.contains_nil, Bool.or_false, Bool.not_false, Bool.not_true, decide_true, decide_false, Nat.zero_add, Nat.reduceAdd, Nat.reduceLT, Nat.reduceBEq, lockCs_n, lockO_n, unlock_n, lockCs_s, lockO_s, unlock_s, slots_v, slots_t, slots_n, slots_c, asg_t, asgs_n, asgs_c, asg_v', List.singleton_append, List.append_nil, List.all_cons, List.all_nil, Option.bind_some, Bool.false_eq_true, if_false, if_true, rho_c, ck, cst4, hit]))
  refine wp_forL (fun i s => SzS v (rzs (ts.take i)) s) ⟨_, _, rfl⟩ (fun s ⟨x, y, e⟩ => ?_) fun i z s hz ⟨x, y, e⟩ => ?_
  · subst e
    rw [List.length_map, List.take_length]
    repeat (first | rw [wx_cons] | rw [wx_nil] | rw [wx_ifs] | rw [wx_set] | rw [wx_setT] | rw [w_asgF] | rw [wx_ret] | rw [wx_retN] | rw [wx_app] | rw [wx_setIx] | rw [w_setIxR] | rw [wx_aug] | rw [wx_augIx] | rw [wx_expr] | rw [wx_par2] | rw [wx_par3] | rw [w_setV] | rw [wx_pass] | rw [wx_brk] | rw [wx_cont] | rw [wt_and] | rw [wt_or] | rw [wt_not] | rw [wt_var] | rw [wt_cmp] | rw [wt_chn] | rw [wt_isN] | rw [wt_inn] | rw [wt_call] | rw [wt_bi] | rw [wt_ix] | rw [wt_isi] | rw [we_int] | rw [we_bl] | rw [we_non] | rw [we_str] | rw [we_var] | rw [we_glb] | rw [we_tup] | rw [we_lst] | rw [we_bin] | rw [we_neg] | rw [we_cmp] | rw [we_isN] | rw [we_inn] | rw [we_not] | rw [we_and] | rw [we_or] | rw [we_ite] | rw [we_ix] | rw [we_sl] | rw [we_rev] | rw [we_call] | rw [we_bi] | rw [we_isi] | rw [ws_nil] | rw [ws_cons] | rw [wP_one] | rw [wP_more] | rw [wA_nil] | rw [wA_cons] | rw [wo_no] | rw [wo_yes] | rw [w_late] | rw [w_peek] | rw [w_arg] | rw [w_frz] | rw [w_intR] | rw [wCall_some] | rw [wLate_n] | rw [wLate_v] | rw [wPeek_n] | rw [wPeek_v] | rw [wArg_n] | rw [wArg_v] | rw [wr_seq] | rw [wr_enum] | rw [wr_rng] | rw [wr_rng2] | rw [wOpen_v] | rw [wOpen_n] | rw [w_open] | rw [wx_for] | rw [w_turn] | rw [we_comp] | rw [w_bodyC] | rw [wp_opt] | rw [wp_bind] | (simp only [wp_ok, wO_some, wI_int, wB_t, wB_f, wF_nx, wF_rt, wF_bk, wF_ct, wV_sh, wV_lst, wL_lst, get_zero, get_succ, set_zero, set_succ, gv_zero, gv_succ, pv_sh, pv_lst, own_sh, own_lst, isV_var, truth_bl, truth_int, c_lt, c_le, c_gt, c_ge, c_eq, c_ne, o_add, o_sub, len_lst, len_tup, Bool.false_and, Bool.true_and, Bool.and_false, Bool.and_true, isV, tk_v, tk_n, tk_0, tk_1, pu_v, pu_n, pu_0, pu_1, Option.map_some, List.length_cons, List.length_nil, List.contains_cons, List.contains_nil, Bool.or_false, Bool.not_false, Bool.not_true, decide_true, decide_false, Nat.zero_add, Nat.reduceAdd, Nat.reduceLT, Nat.reduceBEq, lockCs_n, lockO_n, unlock_n, lockCs_s, lockO_s, unlock_s, slots_v, slots_t, slots_n, slots_c, asg_t, asgs_n, asgs_c, asg_v', List.singleton_append, List.append_nil, List.all_cons, List.all_nil, Option.bind_some, Bool.false_eq_true, if_false, if_true, bt]))
    exact ⟨trivial, _, _, _, _, _, rfl⟩
  · subst e
    rw [List.getElem?_map] at hz
    cases q : ts[i]? with
    | none => rw [q] at hz; cases hz
    | some t =>
      rw [q] at hz; cases hz
      rw [w_turn]
      simp only [slots_v, List.all_cons, List.all_nil, List.contains_nil, Bool.not_false, Bool.and_true, wB_t, asg_v', List.length_cons, List.length_nil, Nat.reduceAdd, Nat.reduceLT, if_true, wO_some, set_succ, set_zero]
      refine wp_imp (sz_turn (n + 5) v (rzs (ts.take i)) t y) fun f s ⟨e1, e2⟩ => ?_
      subst e1
      show SzS v (rzs (ts.take (i + 1))) s
      rw [rzs_snoc ts i t q]
      exact e2
end PF.K51
set_option Elab.async false
set_option linter.all false
set_option maxRecDepth 1000000
set_option maxHeartbeats 4000000
namespace PF.K51
open PySem PySem.Spec PyProof.Rows PF
theorem ix2 (a b : PV) (r : Int) (h : 0 ≤ r) (h2 : r < 2) : ∃ v, index (.lst [a, b]) (.int r) = some v ∧ (v = a ∨ v = b) := by
  have : r = 0 ∨ r = 1 := by omega
  rcases this with rfl | rfl
  · exact ⟨a, rfl, .inl rfl⟩
  · exact ⟨b, rfl, .inr rfl⟩
theorem ix4 (r : Int) (h : 0 ≤ r) (h2 : r < 4) : ∃ s : Sd, index (.lst [.str tTop, .str tRight, .str tBot, .str tLeft]) (.int r) = some (.str s.tx) := by
  have : r = 0 ∨ r = 1 ∨ r = 2 ∨ r = 3 := by omega
  rcases this with rfl | rfl | rfl | rfl
  · exact ⟨.top, rfl⟩
  · exact ⟨.right, rfl⟩
  · exact ⟨.bot, rfl⟩
  · exact ⟨.left, rfl⟩
def stBody : Sts := match f_law_steps.body with
  | .cons _ (.cons (.for_ _ _ b) _) => b
  | _ => .nil
def StS (ns : List Int) (cnt base : Int) (m : Nat) (s : S) : Prop := ∃ (i b d : Int) (ts : List Stp) (x y z : OV), s = [Pool ns i b d, .sh (.int cnt), .sh (.int base), .lst (ts.map Stp.pv), x, y, z] ∧ PoolOk i b d ∧ ts.length = m ∧ ∀ t, t ∈ ts → t.ok
theorem st_turn (n : Nat) (ns : List Int) (cnt base : Int) (hb : 0 ≤ base) (i b d : Int) (h : PoolOk i b d) (ts : List Stp) (hok : ∀ t, t ∈ ts → t.ok) (hm : ts.length < 1000) (x y z : OV) : Wp (exs (Γ (n + 1)) [0] stBody [Pool ns i b d, .sh (.int cnt), .sh (.int base), .lst (ts.map Stp.pv), x, y, z]) fun f s => f = .nx ∧ StS ns cnt base (ts.length + 1) s := by
  have hbig : decide ((ts.map Stp.pv).length < big) = true := decide_eq_true (by rw [List.length_map]; unfold big; omega)
  have fin : ∀ (i b d : Int) (t : Stp) (x y z : OV), PoolOk i b d → t.ok → StS ns cnt base (ts.length + 1) [Pool ns i b d, .sh (.int cnt), .sh (.int base), .lst (ts.map Stp.pv ++ [t.pv]), x, y, z] := fun i b d t x y z h ht => ⟨i, b, d, ts ++ [t], x, y, z, by simp, h, by simp, fun u hu => by
    rcases List.mem_append.mp hu with q | q
    · exact hok u q
    · rw [List.mem_singleton.mp q]; exact ht⟩
  have dr := c_draw n ns i b d 8 h (by decide) (by decide)
  unfold stBody f_law_steps
  dsimp only
  unfold Pool at dr ⊢
  repeat (first | rw [wx_cons] | rw [wx_nil] | rw [wx_ifs] | rw [wx_set] | rw [wx_setT] | rw [w_asgF] | rw [wx_ret] | rw [wx_retN] | rw [wx_app] | rw [wx_setIx] | rw [w_setIxR] | rw [wx_aug] | rw [wx_augIx] | rw [wx_expr] | rw [wx_par2] | rw [wx_par3] | rw [w_setV] | rw [wx_pass] | rw [wx_brk] | rw [wx_cont] | rw [wt_and] | rw [wt_or] | rw [wt_not] | rw [wt_var] | rw [wt_cmp] | rw [wt_chn] | rw [wt_isN] | rw [wt_inn] | rw [wt_call] | rw [wt_bi] | rw [wt_ix] | rw [wt_isi] | rw [we_int] | rw [we_bl] | rw [we_non] | rw [we_str] | rw [we_var] | rw [we_glb] | rw [we_tup] | rw [we_lst] | rw [we_bin] | rw [we_neg] | rw [we_cmp] | rw [we_isN] | rw [we_inn] | rw [we_not] | rw [we_and] | rw [we_or] | rw [we_ite] | rw [we_ix] | rw [we_sl] | rw [we_rev] | rw [we_call] | rw [we_bi] | rw [we_isi] | rw [ws_nil] | rw [ws_cons] | rw [wP_one] | rw [wP_more] | rw [wA_nil] | rw [wA_cons] | rw [wo_no] | rw [wo_yes] | rw [w_late] | rw [w_peek] | rw [w_arg] | rw [w_frz] | rw [w_intR] | rw [wCall_some] | rw [wLate_n] | rw [wLate_v] | rw [wPeek_n] | rw [wPeek_v] | rw [wArg_n] | rw [wArg_v] | rw [wr_seq] | rw [wr_enum] | rw [wr_rng] | rw [wr_rng2] | rw [wOpen_v] | rw [wOpen_n] | rw [w_open] | rw [wx_for] | rw [w_turn] | rw [we_comp] | rw [w_bodyC] | rw [wp_opt] | rw [wp_bind] | (simp only [wp_ok, wO_some, wI_int, wB_t, wB_f, wF_nx, wF_rt, wF_bk, wF_ct, wV_sh, wV_lst, wL_lst, get_zero, get_succ, set_zero, set_succ, gv_zero, gv_succ, pv_sh, pv_lst, own_sh, own_lst, isV_var, truth_bl, truth_int, c_lt, c_le, c_gt, c_ge, c_eq, c_ne, o_add, o_sub, len_lst, len_tup, Bool.false_and, Bool.true_and, Bool.and_false, Bool.and_true, isV, tk_v, tk_n, tk_0, tk_1, pu_v, pu_n, pu_0, pu_1, Option.map_some, List.length_cons, List.length_nil, List.contains_cons, List.contains_nil, Bool.or_false, Bool.not_false, Bool.not_true, decide_true, decide_false, Nat.zero_add, Nat.reduceAdd, Nat.reduceLT, Nat.reduceBEq, lockCs_n, lockO_n, unlock_n, lockCs_s, lockO_s, unlock_s, slots_v, slots_t, slots_n, slots_c, asg_t, asgs_n, asgs_c, asg_v', List.singleton_append, List.append_nil, List.all_cons, List.all_nil, Option.bind_some, Bool.false_eq_true, if_false, if_true, cst6, rho_c]))
  refine wp_imp dr fun v o ⟨i2, b2, d2, way, e1, e2, h2, w0, w1⟩ => ?_
  subst e1 e2
  have dr2 := c_draw n ns i2 b2 d2 4 h2 (by decide) (by decide)
  unfold Pool at dr2 ⊢
  repeat (first | rw [wx_cons] | rw [wx_nil] | rw [wx_ifs] | rw [wx_set] | rw [wx_setT] | rw [w_asgF] | rw [wx_ret] | rw [wx_retN] | rw [wx_app] | rw [wx_setIx] | rw [w_setIxR] | rw [wx_aug] | rw [wx_augIx] | rw [wx_expr] | rw [wx_par2] | rw [wx_par3] | rw [w_setV] | rw [wx_pass] | rw [wx_brk] | rw [wx_cont] | rw [wt_and] | rw [wt_or] | rw [wt_not] | rw [wt_var] | rw [wt_cmp] | rw [wt_chn] | rw [wt_isN] | rw [wt_inn] | rw [wt_call] | rw [wt_bi] | rw [wt_ix] | rw [wt_isi] | rw [we_int] | rw [we_bl] | rw [we_non] | rw [we_str] | rw [we_var] | rw [we_glb] | rw [we_tup] | rw [we_lst] | rw [we_bin] | rw [we_neg] | rw [we_cmp] | rw [we_isN] | rw [we_inn] | rw [we_not] | rw [we_and] | rw [we_or] | rw [we_ite] | rw [we_ix] | rw [we_sl] | rw [we_rev] | rw [we_call] | rw [we_bi] | rw [we_isi] | rw [ws_nil] | rw [ws_cons] | rw [wP_one] | rw [wP_more] | rw [wA_nil] | rw [wA_cons] | rw [wo_no] | rw [wo_yes] | rw [w_late] | rw [w_peek] | rw [w_arg] | rw [w_frz] | rw [w_intR] | rw [wCall_some] | rw [wLate_n] | rw [wLate_v] | rw [wPeek_n] | rw [wPeek_v] | rw [wArg_n] | rw [wArg_v] | rw [wr_seq] | rw [wr_enum] | rw [wr_rng] | rw [wr_rng2] | rw [wOpen_v] | rw [wOpen_n] | rw [w_open] | rw [wx_for] | rw [w_turn] | rw [we_comp] | rw [w_bodyC] | rw [wp_opt] | rw [wp_bind] | (simp only [wp_ok, wO_some, wI_int, wB_t, wB_f, wF_nx, wF_rt, wF_bk, wF_ct, wV_sh, wV_lst, wL_lst, get_zero, get_succ, set_zero, set_succ, gv_zero, gv_succ, pv_sh, pv_lst, own_sh, own_lst, isV_var, truth_bl, truth_int, c_lt, c_le, c_gt, c_ge, c_eq, c_ne, o_add, o_sub, len_lst, len_tup, Bool.false_and, Bool.true_and, Bool.and_false, Bool.and_true, isV, tk_v, tk_n, tk_0, tk_1, pu_v, pu_n, pu_0, pu_1, Option.map_some, List.length_cons, List.length_nil, List.contains_cons, List.contains_nil, Bool.or_false, Bool.not_false, Bool.not_true, decide_true, decide_false, Nat.zero_add, Nat.reduceAdd, Nat.reduceLT, Nat.reduceBEq, lockCs_n, lockO_n, unlock_n, lockCs_s, lockO_s, unlock_s, slots_v, slots_t, slots_n, slots_c, asg_t, asgs_n, asgs_c, asg_v', List.singleton_append, List.append_nil, List.all_cons, List.all_nil, Option.bind_some, Bool.false_eq_true, if_false, if_true, cst6, rho_c]))
  refine wp_imp dr2 fun v o ⟨i3, b3, d3, sd, e1, e2, h3, s0, s1⟩ => ?_
  subst e1 e2
  obtain ⟨side, es⟩ := ix4 sd s0 s1
  unfold Pool
  by_cases c2 : way < 2
  · have c2' : decide (way < 2) = true := decide_eq_true c2
    obtain ⟨q, eq, hq⟩ := ix2 (.tup [.str tTurn]) (.tup [.str tMir]) way w0 c2
    repeat (first | rw [wx_cons] | rw [wx_nil] | rw [wx_ifs] | rw [wx_set] | rw [wx_setT] | rw [w_asgF] | rw [wx_ret] | rw [wx_retN] | rw [wx_app] | rw [wx_setIx] | rw [w_setIxR] | rw [wx_aug] | rw [wx_augIx] | rw [wx_expr] | rw [wx_par2] | rw [wx_par3] | rw [w_setV] | rw [wx_pass] | rw [wx_brk] | rw [wx_cont] | rw [wt_and] | rw [wt_or] | rw [wt_not] | rw [wt_var] | rw [wt_cmp] | rw [wt_chn] | rw [wt_isN] | rw [wt_inn] | rw [wt_call] | rw [wt_bi] | rw [wt_ix] | rw [wt_isi] | rw [we_int] | rw [we_bl] | rw [we_non] | rw [we_str] | rw [we_var] | rw [we_glb] | rw [we_tup] | rw [we_lst] | rw [we_bin] | rw [we_neg] | rw [we_cmp] | rw [we_isN] | rw [we_inn] | rw [we_not] | rw [we_and] | rw [we_or] | rw [we_ite] | rw [we_ix] | rw [we_sl] | rw [we_rev] | rw [we_call] | rw [we_bi] | rw [we_isi] | rw [ws_nil] | rw [ws_cons] | rw [wP_one] | rw [wP_more] | rw [wA_nil] | rw [wA_cons] | rw [wo_no] | rw [wo_yes] | rw [w_late] | rw [w_peek] | rw [w_arg] | rw [w_frz] | rw [w_intR] | rw [wCall_some] | rw [wLate_n] | rw [wLate_v] | rw [wPeek_n] | rw [wPeek_v] | rw [wArg_n] | rw [wArg_v] | rw [wr_seq] | rw [wr_enum] | rw [wr_rng] | rw [wr_rng2] | rw [wOpen_v] | rw [wOpen_n] | rw [w_open] | rw [wx_for] | rw [w_turn] | rw [we_comp] | rw [w_bodyC] | rw [wp_opt] | rw [wp_bind] | (simp only [wp_ok, wO_some, wI_int, wB_t, wB_f, wF_nx, wF_rt, wF_bk, wF_ct, wV_sh, wV_lst, wL_lst, get_zero, get_succ, set_zero, set_succ, gv_zero, gv_succ, pv_sh, pv_lst, own_sh, own_lst, isV_var, truth_bl, truth_int, c_lt, c_le, c_gt, c_ge, c_eq, c_ne, o_add, o_sub, len_lst, len_tup, Bool.false_and, Bool.true_and, Bool.and_false, Bool.and_true, isV, tk_v, tk_n, tk_0, tk_1, pu_v, pu_n, pu_0, pu_1, Option.map_some, List.length_cons, List.length_nil, List.contains_cons, List.contains_nil, Bool.or_false, Bool.not_false, Bool.not_true, decide_true, decide_false, Nat.zero_add, Nat.reduceAdd, Nat.reduceLT, Nat.reduceBEq, lockCs_n, lockO_n, unlock_n, lockCs_s, lockO_s, unlock_s, slots_v, slots_t, slots_n, slots_c, asg_t, asgs_n, asgs_c, asg_v', List.singleton_append, List.append_nil, List.all_cons, List.all_nil, Option.bind_some, Bool.false_eq_true, if_false, if_true, es, c2', eq, hbig]))
    rcases hq with rfl | rfl
    · exact ⟨trivial, fin _ _ _ .turn _ _ _ h3 True.intro⟩
    · exact ⟨trivial, fin _ _ _ .mir _ _ _ h3 True.intro⟩
  · have c2' : decide (way < 2) = false := decide_eq_false c2
    by_cases c5 : way < 5
    · have c5' : decide (way < 5) = true := decide_eq_true c5
      repeat (first | rw [wx_cons] | rw [wx_nil] | rw [wx_ifs] | rw [wx_set] | rw [wx_setT] | rw [w_asgF] | rw [wx_ret] | rw [wx_retN] | rw [wx_app] | rw [wx_setIx] | rw [w_setIxR] | rw [wx_aug] | rw [wx_augIx] | rw [wx_expr] | rw [wx_par2] | rw [wx_par3] | rw [w_setV] | rw [wx_pass] | rw [wx_brk] | rw [wx_cont] | rw [wt_and] | rw [wt_or] | rw [wt_not] | rw [wt_var] | rw [wt_cmp] | rw [wt_chn] | rw [wt_isN] | rw [wt_inn] | rw [wt_call] | rw [wt_bi] | rw [wt_ix] | rw [wt_isi] | rw [we_int] | rw [we_bl] | rw [we_non] | rw [we_str] | rw [we_var] | rw [we_glb] | rw [we_tup] | rw [we_lst] | rw [we_bin] | rw [we_neg] | rw [we_cmp] | rw [we_isN] | rw [we_inn] | rw [we_not] | rw [we_and] | rw [we_or] | rw [we_ite] | rw [we_ix] | rw [we_sl] | rw [we_rev] | rw [we_call] | rw [we_bi] | rw [we_isi] | rw [ws_nil] | rw [ws_cons] | rw [wP_one] | rw [wP_more] | rw [wA_nil] | rw [wA_cons] | rw [wo_no] | rw [wo_yes] | rw [w_late] | rw [w_peek] | rw [w_arg] | rw [w_frz] | rw [w_intR] | rw [wCall_some] | rw [wLate_n] | rw [wLate_v] | rw [wPeek_n] | rw [wPeek_v] | rw [wArg_n] | rw [wArg_v] | rw [wr_seq] | rw [wr_enum] | rw [wr_rng] | rw [wr_rng2] | rw [wOpen_v] | rw [wOpen_n] | rw [w_open] | rw [wx_for] | rw [w_turn] | rw [we_comp] | rw [w_bodyC] | rw [wp_opt] | rw [wp_bind] | (simp only [wp_ok, wO_some, wI_int, wB_t, wB_f, wF_nx, wF_rt, wF_bk, wF_ct, wV_sh, wV_lst, wL_lst, get_zero, get_succ, set_zero, set_succ, gv_zero, gv_succ, pv_sh, pv_lst, own_sh, own_lst, isV_var, truth_bl, truth_int, c_lt, c_le, c_gt, c_ge, c_eq, c_ne, o_add, o_sub, len_lst, len_tup, Bool.false_and, Bool.true_and, Bool.and_false, Bool.and_true, isV, tk_v, tk_n, tk_0, tk_1, pu_v, pu_n, pu_0, pu_1, Option.map_some, List.length_cons, List.length_nil, List.contains_cons, List.contains_nil, Bool.or_false, Bool.not_false, Bool.not_true, decide_true, decide_false, Nat.zero_add, Nat.reduceAdd, Nat.reduceLT, Nat.reduceBEq, lockCs_n, lockO_n, unlock_n, lockCs_s, lockO_s, unlock_s, slots_v, slots_t, slots_n, slots_c, asg_t, asgs_n, asgs_c, asg_v', List.singleton_append, List.append_nil, List.all_cons, List.all_nil, Option.bind_some, Bool.false_eq_true, if_false, if_true, es, c2', c5', hbig]))
      exact ⟨trivial, fin _ _ _ (.cut side) _ _ _ h3 True.intro⟩
    · have c5' : decide (way < 5) = false := decide_eq_false c5
      have dr3 := c_draw n ns i3 b3 d3 3 h3 (by decide) (by decide)
      unfold Pool at dr3
      repeat (first | rw [wx_cons] | rw [wx_nil] | rw [wx_ifs] | rw [wx_set] | rw [wx_setT] | rw [w_asgF] | rw [wx_ret] | rw [wx_retN] | rw [wx_app] | rw [wx_setIx] | rw [w_setIxR] | rw [wx_aug] | rw [wx_augIx] | rw [wx_expr] | rw [wx_par2] | rw [wx_par3] | rw [w_setV] | rw [wx_pass] | rw [wx_brk] | rw [wx_cont] | rw [wt_and] | rw [wt_or] | rw [wt_not] | rw [wt_var] | rw [wt_cmp] | rw [wt_chn] | rw [wt_isN] | rw [wt_inn] | rw [wt_call] | rw [wt_bi] | rw [wt_ix] | rw [wt_isi] | rw [we_int] | rw [we_bl] | rw [we_non] | rw [we_str] | rw [we_var] | rw [we_glb] | rw [we_tup] | rw [we_lst] | rw [we_bin] | rw [we_neg] | rw [we_cmp] | rw [we_isN] | rw [we_inn] | rw [we_not] | rw [we_and] | rw [we_or] | rw [we_ite] | rw [we_ix] | rw [we_sl] | rw [we_rev] | rw [we_call] | rw [we_bi] | rw [we_isi] | rw [ws_nil] | rw [ws_cons] | rw [wP_one] | rw [wP_more] | rw [wA_nil] | rw [wA_cons] | rw [wo_no] | rw [wo_yes] | rw [w_late] | rw [w_peek] | rw [w_arg] | rw [w_frz] | rw [w_intR] | rw [wCall_some] | rw [wLate_n] | rw [wLate_v] | rw [wPeek_n] | rw [wPeek_v] | rw [wArg_n] | rw [wArg_v] | rw [wr_seq] | rw [wr_enum] | rw [wr_rng] | rw [wr_rng2] | rw [wOpen_v] | rw [wOpen_n] | rw [w_open] | rw [wx_for] | rw [w_turn] | rw [we_comp] | rw [w_bodyC] | rw [wp_opt] | rw [wp_bind] | (simp only [wp_ok, wO_some, wI_int, wB_t, wB_f, wF_nx, wF_rt, wF_bk, wF_ct, wV_sh, wV_lst, wL_lst, get_zero, get_succ, set_zero, set_succ, gv_zero, gv_succ, pv_sh, pv_lst, own_sh, own_lst, isV_var, truth_bl, truth_int, c_lt, c_le, c_gt, c_ge, c_eq, c_ne, o_add, o_sub, len_lst, len_tup, Bool.false_and, Bool.true_and, Bool.and_false, Bool.and_true, isV, tk_v, tk_n, tk_0, tk_1, pu_v, pu_n, pu_0, pu_1, Option.map_some, List.length_cons, List.length_nil, List.contains_cons, List.contains_nil, Bool.or_false, Bool.not_false, Bool.not_true, decide_true, decide_false, Nat.zero_add, Nat.reduceAdd, Nat.reduceLT, Nat.reduceBEq, lockCs_n, lockO_n, unlock_n, lockCs_s, lockO_s, unlock_s, slots_v, slots_t, slots_n, slots_c, asg_t, asgs_n, asgs_c, asg_v', List.singleton_append, List.append_nil, List.all_cons, List.all_nil, Option.bind_some, Bool.false_eq_true, if_false, if_true, es, c2', c5', cst6, rho_c]))
      refine wp_imp dr3 fun v o ⟨i4, b4, d4, col, e1, e2, h4, k0, k1⟩ => ?_
      subst e1 e2
      unfold Pool
      repeat (first | rw [wx_cons] | rw [wx_nil] | rw [wx_ifs] | rw [wx_set] | rw [wx_setT] | rw [w_asgF] | rw [wx_ret] | rw [wx_retN] | rw [wx_app] | rw [wx_setIx] | rw [w_setIxR] | rw [wx_aug] | rw [wx_augIx] | rw [wx_expr] | rw [wx_par2] | rw [wx_par3] | rw [w_setV] | rw [wx_pass] | rw [wx_brk] | rw [wx_cont] | rw [wt_and] | rw [wt_or] | rw [wt_not] | rw [wt_var] | rw [wt_cmp] | rw [wt_chn] | rw [wt_isN] | rw [wt_inn] | rw [wt_call] | rw [wt_bi] | rw [wt_ix] | rw [wt_isi] | rw [we_int] | rw [we_bl] | rw [we_non] | rw [we_str] | rw [we_var] | rw [we_glb] | rw [we_tup] | rw [we_lst] | rw [we_bin] | rw [we_neg] | rw [we_cmp] | rw [we_isN] | rw [we_inn] | rw [we_not] | rw [we_and] | rw [we_or] | rw [we_ite] | rw [we_ix] | rw [we_sl] | rw [we_rev] | rw [we_call] | rw [we_bi] | rw [we_isi] | rw [ws_nil] | rw [ws_cons] | rw [wP_one] | rw [wP_more] | rw [wA_nil] | rw [wA_cons] | rw [wo_no] | rw [wo_yes] | rw [w_late] | rw [w_peek] | rw [w_arg] | rw [w_frz] | rw [w_intR] | rw [wCall_some] | rw [wLate_n] | rw [wLate_v] | rw [wPeek_n] | rw [wPeek_v] | rw [wArg_n] | rw [wArg_v] | rw [wr_seq] | rw [wr_enum] | rw [wr_rng] | rw [wr_rng2] | rw [wOpen_v] | rw [wOpen_n] | rw [w_open] | rw [wx_for] | rw [w_turn] | rw [we_comp] | rw [w_bodyC] | rw [wp_opt] | rw [wp_bind] | (simp only [wp_ok, wO_some, wI_int, wB_t, wB_f, wF_nx, wF_rt, wF_bk, wF_ct, wV_sh, wV_lst, wL_lst, get_zero, get_succ, set_zero, set_succ, gv_zero, gv_succ, pv_sh, pv_lst, own_sh, own_lst, isV_var, truth_bl, truth_int, c_lt, c_le, c_gt, c_ge, c_eq, c_ne, o_add, o_sub, len_lst, len_tup, Bool.false_and, Bool.true_and, Bool.and_false, Bool.and_true, isV, tk_v, tk_n, tk_0, tk_1, pu_v, pu_n, pu_0, pu_1, Option.map_some, List.length_cons, List.length_nil, List.contains_cons, List.contains_nil, Bool.or_false, Bool.not_false, Bool.not_true, decide_true, decide_false, Nat.zero_add, Nat.reduceAdd, Nat.reduceLT, Nat.reduceBEq, lockCs_n, lockO_n, unlock_n, lockCs_s, lockO_s, unlock_s, slots_v, slots_t, slots_n, slots_c, asg_t, asgs_n, asgs_c, asg_v', List.singleton_append, List.append_nil, List.all_cons, List.all_nil, Option.bind_some, Bool.false_eq_true, if_false, if_true, hbig]))
      exact ⟨trivial, fin _ _ _ (.add side (base + col)) _ _ _ h4 (show 0 ≤ base + col by omega)⟩
theorem steps_body : f_law_steps.body = .cons (.set (.v 3) (.lst .nil)) (.cons (.for_ (.v 4) (.rng (.var 1)) stBody) (.cons (.ret (.var 3)) .nil)) := rfl
theorem c_steps (n : Nat) (ns : List Int) (cnt base : Int) (hb : 0 ≤ base) (hc : 0 ≤ cnt) (hc2 : cnt < 1000) (i b d : Int) (h : PoolOk i b d) : Wp (c (n + 2) 8 [Pool ns i b d, .sh (.int cnt), .sh (.int base)]) fun v o => ∃ (i b d : Int) (ts : List Stp), v = .sh (.lst (ts.map Stp.pv)) ∧ o = [Pool ns i b d, .emp, .emp] ∧ PoolOk i b d ∧ (ts.length : Int) = cnt ∧ ∀ t, t ∈ ts → t.ok := by
  rw [c_succ (n + 1) 8 f_law_steps rfl]
  refine run_ret (pad := [Pool ns i b d, .sh (.int cnt), .sh (.int base), .emp, .emp, .emp, .emp]) rfl rfl ?_
  show Wp (exs (Γ (n + 1)) [0] f_law_steps.body _) _
  refine wp_imp (Q := fun f s => ∃ (i b d : Int) (ts : List Stp) (x y z : OV), f = .rt (.sh (.lst (ts.map Stp.pv))) ∧ s = [Pool ns i b d, .sh (.int cnt), .sh (.int base), .sh (.lst (ts.map Stp.pv)), x, y, z] ∧ PoolOk i b d ∧ (ts.length : Int) = cnt ∧ ∀ t, t ∈ ts → t.ok) ?_ fun f s ⟨i, b, d, ts, x, y, z, e1, e2, h1, h2, h3⟩ => by
    subst e1 e2
    exact ⟨i, b, d, ts, rfl, rfl, h1, h2, h3⟩
  have rg : rngOk 0 cnt = true := decide_eq_true (by omega)
  rw [steps_body]
  repeat (first | rw [wx_cons] | rw [wx_nil] | rw [wx_ifs] | rw [wx_set] | rw [wx_setT] | rw [w_asgF] | rw [wx_ret] | rw [wx_retN] | rw [wx_app] | rw [wx_setIx] | rw [w_setIxR] | rw [wx_aug] | rw [wx_augIx] | rw [wx_expr] | rw [wx_par2] | rw [wx_par3] | rw [w_setV] | rw [wx_pass] | rw [wx_brk] | rw [wx_cont] | rw [wt_and] | rw [wt_or] | rw [wt_not] | rw [wt_var] | rw [wt_cmp] | rw [wt_chn] | rw [wt_isN] | rw [wt_inn] | rw [wt_call] | rw [wt_bi] | rw [wt_ix] | rw [wt_isi] | rw [we_int] | rw [we_bl] | rw [we_non] | rw [we_str] | rw [we_var] | rw [we_glb] | rw [we_tup] | rw [we_lst] | rw [we_bin] | rw [we_neg] | rw [we_cmp] | rw [we_isN] | rw [we_inn] | rw [we_not] | rw [we_and] | rw [we_or] | rw [we_ite] | rw [we_ix] | rw [we_sl] | rw [we_rev] | rw [we_call] | rw [we_bi] | rw [we_isi] | rw [ws_nil] | rw [ws_cons] | rw [wP_one] | rw [wP_more] | rw [wA_nil] | rw [wA_cons] | rw [wo_no] | rw [wo_yes] | rw [w_late] | rw [w_peek] | rw [w_arg] | rw [w_frz] | rw [w_intR] | rw [wCall_some] | rw [wLate_n] | rw [wLate_v] | rw [wPeek_n] | rw [wPeek_v] | rw [wArg_n] | rw [wArg_v] | rw [wr_seq] | rw [wr_enum] | rw [wr_rng] | rw [wr_rng2] | rw [wOpen_v] | rw [wOpen_n] | rw [w_open] | rw [wx_for] | rw [w_turn] | rw [we_comp] | rw [w_bodyC] | rw [wp_opt] | rw [wp_bind] | (simp only [wp_ok, wO_some, wI_int, wB_t, wB_f, wF_nx, wF_rt, wF_bk, wF_ct, wV_sh, wV_lst, wL_lst, get_zero, get_succ, set_zero, set_succ, gv_zero, gv_succ, pv_sh, pv_lst, own_sh, own_lst, isV_var, truth_bl, truth_int, c_lt, c_le, c_gt, c_ge, c_eq, c_ne, o_add, o_sub, len_lst, len_tup, Bool.false_and, Bool.true_and, Bool.and_false, Bool.and_true, isV, tk_v, tk_n, tk_0, tk_1, pu_v, pu_n, pu_0, pu_1, Option.map_some, List.length_cons, List.length_nil, List.contains_cons, List.contains_nil, Bool.or_false, Bool.not_false, Bool.not_true, decide_true, decide_false, Nat.zero_add, Nat.reduceAdd, Nat.reduceLT, Nat.reduceBEq, lockCs_n, lockO_n, unlock_n, lockCs_s, lockO_s, unlock_s, slots_v, slots_t, slots_n, slots_c, asg_t, asgs_n, asgs_c, asg_v', List.singleton_append, List.append_nil, List.all_cons, List.all_nil, Option.bind_some, Bool.false_eq_true, if_false, if_true, rg]))
  refine wp_forL (fun m s => StS ns cnt base m s) ⟨i, b, d, [], _, _, _, rfl, h, rfl, fun t ht => by cases ht⟩ (fun s ⟨i, b, d, ts, x, y, z, e, h1, h2, h3⟩ => ?_) fun m z s hz ⟨i, b, d, ts, x, y, w, e, h1, h2, h3⟩ => ?_
  · subst e
    repeat (first | rw [wx_cons] | rw [wx_nil] | rw [wx_ifs] | rw [wx_set] | rw [wx_setT] | rw [w_asgF] | rw [wx_ret] | rw [wx_retN] | rw [wx_app] | rw [wx_setIx] | rw [w_setIxR] | rw [wx_aug] | rw [wx_augIx] | rw [wx_expr] | rw [wx_par2] | rw [wx_par3] | rw [w_setV] | rw [wx_pass] | rw [wx_brk] | rw [wx_cont] | rw [wt_and] | rw [wt_or] | rw [wt_not] | rw [wt_var] | rw [wt_cmp] | rw [wt_chn] | rw [wt_isN] | rw [wt_inn] | rw [wt_call] | rw [wt_bi] | rw [wt_ix] | rw [wt_isi] | rw [we_int] | rw [we_bl] | rw [we_non] | rw [we_str] | rw [we_var] | rw [we_glb] | rw [we_tup] | rw [we_lst] | rw [we_bin] | rw [we_neg] | rw [we_cmp] | rw [we_isN] | rw [we_inn] | rw [we_not] | rw [we_and] | rw [we_or] | rw [we_ite] | rw [we_ix] | rw [we_sl] | rw [we_rev] | rw [we_call] | rw [we_bi] | rw [we_isi] | rw [ws_nil] | rw [ws_cons] | rw [wP_one] | rw [wP_more] | rw [wA_nil] | rw [wA_cons] | rw [wo_no] | rw [wo_yes] | rw [w_late] | rw [w_peek] | rw [w_arg] | rw [w_frz] | rw [w_intR] | rw [wCall_some] | rw [wLate_n] | rw [wLate_v] | rw [wPeek_n] | rw [wPeek_v] | rw [wArg_n] | rw [wArg_v] | rw [wr_seq] | rw [wr_enum] | rw [wr_rng] | rw [wr_rng2] | rw [wOpen_v] | rw [wOpen_n] | rw [w_open] | rw [wx_for] | rw [w_turn] | rw [we_comp] | rw [w_bodyC] | rw [wp_opt] | rw [wp_bind] | (simp only [wp_ok, wO_some, wI_int, wB_t, wB_f, wF_nx, wF_rt, wF_bk, wF_ct, wV_sh, wV_lst, wL_lst, get_zero, get_succ, set_zero, set_succ, gv_zero, gv_succ, pv_sh, pv_lst, own_sh, own_lst, isV_var, truth_bl, truth_int, c_lt, c_le, c_gt, c_ge, c_eq, c_ne, o_add, o_sub, len_lst, len_tup, Bool.false_and, Bool.true_and, Bool.and_false, Bool.and_true, isV, tk_v, tk_n, tk_0, tk_1, pu_v, pu_n, pu_0, pu_1, Option.map_some, List.length_cons, List.length_nil, List.contains_cons, List.contains_nil, Bool.or_false, Bool.not_false, Bool.not_true, decide_true, decide_false, Nat.zero_add, Nat.reduceAdd, Nat.reduceLT, Nat.reduceBEq, lockCs_n, lockO_n, unlock_n, lockCs_s, lockO_s, unlock_s, slots_v, slots_t, slots_n, slots_c, asg_t, asgs_n, asgs_c, asg_v', List.singleton_append, List.append_nil, List.all_cons, List.all_nil, Option.bind_some, Bool.false_eq_true, if_false, if_true]))
    refine ⟨i, b, d, ts, _, _, _, rfl, rfl, h1, ?_, h3⟩
    rw [h2, rngL_len]; omega
  · subst e
    have hlt := (rngL_get hz).2
    rw [w_turn]
    simp only [slots_v, List.all_cons, List.all_nil, List.contains_cons, List.contains_nil, Nat.reduceBEq, Bool.or_false, Bool.not_false, Bool.and_true, wB_t, asg_v', List.length_cons, List.length_nil, Nat.reduceAdd, Nat.reduceLT, if_true, wO_some, set_succ, set_zero]
    refine wp_imp (st_turn n ns cnt base hb i b d h1 ts h3 (by omega) _ y w) fun f s ⟨e1, e2⟩ => ?_
    subst e1
    rw [h2] at e2
    exact e2
end PF.K51
set_option Elab.async false
set_option linter.all false
set_option maxRecDepth 1000000
set_option maxHeartbeats 4000000
namespace PF.K51
open PySem PySem.Spec PyProof.Rows PF
def gpv (gr : List (List PV)) : PV := .lst (gr.map PV.tup)
structure Gd (gr : List (List PV)) (h w : Nat) : Prop where
  len : gr.length = h
  row : ∀ r, r ∈ gr → r.length = w
  h1 : 1 ≤ h
  w1 : 1 ≤ w
  h2 : h ≤ 900
  w2 : w ≤ 900
theorem gpv_0 (r0 : List PV) (gs : List (List PV)) : index (gpv (r0 :: gs)) (.int 0) = some (.tup r0) := ix_lst (n := 0) (ixN_nn (Int.le_refl 0) (by simp)) rfl
theorem items_gpv (gr : List (List PV)) : items (gpv gr) = some (gr.map PV.tup) := rfl
/-- a comprehension over the rows -/
theorem row_comp (n : Nat) (elt : Ex) (gr : List (List PV)) (st sd ln at_ : OV) (w' : Nat) (hl : gr.length ≤ 1000)
    (he : ∀ r, r ∈ gr → Wp (ev (Γ n) elt [.sh (gpv gr), st, sd, ln, .sh (.tup r), at_]) fun o s => (∃ r', o.pv = some (.tup r') ∧ r'.length = w') ∧ s = [.sh (gpv gr), st, sd, ln, .sh (.tup r), at_]) :
    Wp (ev (Γ n) (.comp elt (.v 4) (.seq (.var 0)) [4]) [.sh (gpv gr), st, sd, ln, .emp, at_]) fun o s => ∃ gr' : List (List PV), o = .lst (gr'.map PV.tup) ∧ gr'.length = gr.length ∧ (∀ r, r ∈ gr' → r.length = w') ∧ s = [.sh (gpv gr), st, sd, ln, .emp, at_] := by
  have hb : decide ((gr.map PV.tup).length ≤ big) = true := decide_eq_true (by rw [List.length_map]; unfold big; omega)
  have hp : plainAt [.sh (gpv gr), st, sd, ln, .emp, at_] [4] = true := rfl
  repeat (first | rw [wx_cons] | rw [wx_nil] | rw [wx_ifs] | rw [wx_set] | rw [wx_setT] | rw [w_asgF] | rw [wx_ret] | rw [wx_retN] | rw [wx_app] | rw [wx_setIx] | rw [w_setIxR] | rw [wx_aug] | rw [wx_augIx] | rw [wx_expr] | rw [wx_par2] | rw [wx_par3] | rw [w_setV] | rw [wx_pass] | rw [wx_brk] | rw [wx_cont] | rw [wt_and] | rw [wt_or] | rw [wt_not] | rw [wt_var] | rw [wt_cmp] | rw [wt_chn] | rw [wt_isN] | rw [wt_inn] | rw [wt_call] | rw [wt_bi] | rw [wt_ix] | rw [wt_isi] | rw [we_int] | rw [we_bl] | rw [we_non] | rw [we_str] | rw [we_var] | rw [we_glb] | rw [we_tup] | rw [we_lst] | rw [we_bin] | rw [we_neg] | rw [we_cmp] | rw [we_isN] | rw [we_inn] | rw [we_not] | rw [we_and] | rw [we_or] | rw [we_ite] | rw [we_ix] | rw [we_sl] | rw [we_rev] | rw [we_call] | rw [we_bi] | rw [we_isi] | rw [ws_nil] | rw [ws_cons] | rw [wP_one] | rw [wP_more] | rw [wA_nil] | rw [wA_cons] | rw [wo_no] | rw [wo_yes] | rw [w_late] | rw [w_peek] | rw [w_arg] | rw [w_frz] | rw [w_intR] | rw [wCall_some] | rw [wLate_n] | rw [wLate_v] | rw [wPeek_n] | rw [wPeek_v] | rw [wArg_n] | rw [wArg_v] | rw [wr_seq] | rw [wr_enum] | rw [wr_rng] | rw [wr_rng2] | rw [wOpen_v] | rw [wOpen_n] | rw [w_open] | rw [wx_for] | rw [w_turn] | rw [we_comp] | rw [w_bodyC] | rw [wp_opt] | rw [wp_bind] | (simp only [wp_ok, wO_some, wI_int, wB_t, wB_f, wF_nx, wF_rt, wF_bk, wF_ct, wV_sh, wV_lst, wL_lst, get_zero, get_succ, set_zero, set_succ, gv_zero, gv_succ, pv_sh, pv_lst, own_sh, own_lst, isV_var, truth_bl, truth_int, c_lt, c_le, c_gt, c_ge, c_eq, c_ne, o_add, o_sub, len_lst, len_tup, Bool.false_and, Bool.true_and, Bool.and_false, Bool.and_true, isV, tk_v, tk_n, tk_0, tk_1, pu_v, pu_n, pu_0, pu_1, Option.map_some, List.length_cons, List.length_nil, List.contains_cons, List.contains_nil, Bool.or_false, Bool.not_false, Bool.not_true, decide_true, decide_false, Nat.zero_add, Nat.reduceAdd, Nat.reduceLT, Nat.reduceBEq, lockCs_n, lockO_n, unlock_n, lockCs_s, lockO_s, unlock_s, slots_v, slots_t, slots_n, slots_c, asg_t, asgs_n, asgs_c, asg_v', List.singleton_append, List.append_nil, List.all_cons, List.all_nil, Option.bind_some, Bool.false_eq_true, if_false, if_true, items_gpv, hb, hp]))
  refine wp_compL (fun i acc s => (∃ x, s = [.sh (gpv gr), st, sd, ln, x, at_]) ∧ ∃ gr' : List (List PV), acc = gr'.map PV.tup ∧ gr'.length = i ∧ ∀ r, r ∈ gr' → r.length = w') ⟨⟨_, rfl⟩, [], rfl, rfl, fun r h => by cases h⟩ (fun ys s ⟨⟨x, e⟩, gr', e2, h2, h3⟩ => ?_) fun i x acc s hx ⟨⟨y, e⟩, gr', e2, h2, h3⟩ => ?_
  · subst e e2
    rw [List.length_map] at h2
    exact ⟨gr', rfl, h2, h3, rfl⟩
  · subst e e2
    rw [List.getElem?_map] at hx
    cases q : gr[i]? with
    | none => rw [q] at hx; cases hx
    | some r =>
      rw [q] at hx; cases hx
      have hw : wipeS [.sh (gpv gr), st, sd, ln, y, at_] [4] = [.sh (gpv gr), st, sd, ln, .emp, at_] := rfl
      rw [hw, w_bodyC]
      simp only [asg_v', List.length_cons, List.length_nil, Nat.reduceAdd, Nat.reduceLT, if_true, wO_some, set_succ, set_zero]
      refine wp_imp (he r (List.mem_of_getElem? q)) fun o s ⟨⟨r', er, hr⟩, es⟩ => ?_
      subst es
      rw [er, wO_some]
      refine ⟨⟨_, rfl⟩, gr' ++ [r'], by simp, by simp [h2], fun u hu => ?_⟩
      rcases List.mem_append.mp hu with z | z
      · exact h3 u z
      · rw [List.mem_singleton.mp z]; exact hr
/-- a column, from below -/
theorem turn_in (n : Nat) (gr : List (List PV)) (st sd ln : OV) (w k : Nat) (hl : gr.length ≤ 1000) (hr : ∀ r, r ∈ gr → r.length = w) (hk : k < w) :
    Wp (ev (Γ n) (.comp (.ix (.var 4) (.var 5)) (.v 4) (.seq (.rev (.var 0))) [4]) [.sh (gpv gr), st, sd, ln, .emp, .sh (.int k)]) fun o s => (∃ xs, o = .lst xs ∧ xs.length = gr.length) ∧ s = [.sh (gpv gr), st, sd, ln, .emp, .sh (.int k)] := by
  have hb : decide ((gr.map PV.tup).reverse.length ≤ big) = true := decide_eq_true (by rw [List.length_reverse, List.length_map]; unfold big; omega)
  have hp : plainAt [.sh (gpv gr), st, sd, ln, .emp, .sh (.int k)] [4] = true := rfl
  have hrv : reversed (gpv gr) = some (.lst (gr.map PV.tup).reverse) := rfl
  have hit : items (.lst (gr.map PV.tup).reverse) = some (gr.map PV.tup).reverse := rfl
  repeat (first | rw [wx_cons] | rw [wx_nil] | rw [wx_ifs] | rw [wx_set] | rw [wx_setT] | rw [w_asgF] | rw [wx_ret] | rw [wx_retN] | rw [wx_app] | rw [wx_setIx] | rw [w_setIxR] | rw [wx_aug] | rw [wx_augIx] | rw [wx_expr] | rw [wx_par2] | rw [wx_par3] | rw [w_setV] | rw [wx_pass] | rw [wx_brk] | rw [wx_cont] | rw [wt_and] | rw [wt_or] | rw [wt_not] | rw [wt_var] | rw [wt_cmp] | rw [wt_chn] | rw [wt_isN] | rw [wt_inn] | rw [wt_call] | rw [wt_bi] | rw [wt_ix] | rw [wt_isi] | rw [we_int] | rw [we_bl] | rw [we_non] | rw [we_str] | rw [we_var] | rw [we_glb] | rw [we_tup] | rw [we_lst] | rw [we_bin] | rw [we_neg] | rw [we_cmp] | rw [we_isN] | rw [we_inn] | rw [we_not] | rw [we_and] | rw [we_or] | rw [we_ite] | rw [we_ix] | rw [we_sl] | rw [we_rev] | rw [we_call] | rw [we_bi] | rw [we_isi] | rw [ws_nil] | rw [ws_cons] | rw [wP_one] | rw [wP_more] | rw [wA_nil] | rw [wA_cons] | rw [wo_no] | rw [wo_yes] | rw [w_late] | rw [w_peek] | rw [w_arg] | rw [w_frz] | rw [w_intR] | rw [wCall_some] | rw [wLate_n] | rw [wLate_v] | rw [wPeek_n] | rw [wPeek_v] | rw [wArg_n] | rw [wArg_v] | rw [wr_seq] | rw [wr_enum] | rw [wr_rng] | rw [wr_rng2] | rw [wOpen_v] | rw [wOpen_n] | rw [w_open] | rw [wx_for] | rw [w_turn] | rw [we_comp] | rw [w_bodyC] | rw [wp_opt] | rw [wp_bind] | (simp only [wp_ok, wO_some, wI_int, wB_t, wB_f, wF_nx, wF_rt, wF_bk, wF_ct, wV_sh, wV_lst, wL_lst, get_zero, get_succ, set_zero, set_succ, gv_zero, gv_succ, pv_sh, pv_lst, own_sh, own_lst, isV_var, truth_bl, truth_int, c_lt, c_le, c_gt, c_ge, c_eq, c_ne, o_add, o_sub, len_lst, len_tup, Bool.false_and, Bool.true_and, Bool.and_false, Bool.and_true, isV, tk_v, tk_n, tk_0, tk_1, pu_v, pu_n, pu_0, pu_1, Option.map_some, List.length_cons, List.length_nil, List.contains_cons, List.contains_nil, Bool.or_false, Bool.not_false, Bool.not_true, decide_true, decide_false, Nat.zero_add, Nat.reduceAdd, Nat.reduceLT, Nat.reduceBEq, lockCs_n, lockO_n, unlock_n, lockCs_s, lockO_s, unlock_s, slots_v, slots_t, slots_n, slots_c, asg_t, asgs_n, asgs_c, asg_v', List.singleton_append, List.append_nil, List.all_cons, List.all_nil, Option.bind_some, Bool.false_eq_true, if_false, if_true, hrv, hit, hb, hp]))
  refine wp_compL (fun i acc s => (∃ x, s = [.sh (gpv gr), st, sd, ln, x, .sh (.int k)]) ∧ acc.length = i) ⟨⟨_, rfl⟩, rfl⟩ (fun ys s ⟨⟨x, e⟩, h2⟩ => ?_) fun i x acc s hx ⟨⟨y, e⟩, h2⟩ => ?_
  · subst e
    rw [List.length_reverse, List.length_map] at h2
    exact ⟨⟨ys, rfl, h2⟩, rfl⟩
  · subst e
    have hm : x ∈ gr.map PV.tup := List.mem_reverse.mp (List.mem_of_getElem? hx)
    obtain ⟨r, hr1, rfl⟩ := List.mem_map.mp hm
    have hw : wipeS [.sh (gpv gr), st, sd, ln, y, .sh (.int k)] [4] = [.sh (gpv gr), st, sd, ln, .emp, .sh (.int k)] := rfl
    have hlr := hr r hr1
    have hk2 : k < r.length := by omega
    have hix : index (.tup r) (.int k) = some r[k] := by
      show (ixN r.length k).bind _ = _
      rw [ixN_nn (by omega) (by omega)]
      show r[(k : Int).toNat]? = _
      rw [Int.toNat_natCast, List.getElem?_eq_getElem hk2]
    rw [hw, w_bodyC]
    repeat (first | rw [wx_cons] | rw [wx_nil] | rw [wx_ifs] | rw [wx_set] | rw [wx_setT] | rw [w_asgF] | rw [wx_ret] | rw [wx_retN] | rw [wx_app] | rw [wx_setIx] | rw [w_setIxR] | rw [wx_aug] | rw [wx_augIx] | rw [wx_expr] | rw [wx_par2] | rw [wx_par3] | rw [w_setV] | rw [wx_pass] | rw [wx_brk] | rw [wx_cont] | rw [wt_and] | rw [wt_or] | rw [wt_not] | rw [wt_var] | rw [wt_cmp] | rw [wt_chn] | rw [wt_isN] | rw [wt_inn] | rw [wt_call] | rw [wt_bi] | rw [wt_ix] | rw [wt_isi] | rw [we_int] | rw [we_bl] | rw [we_non] | rw [we_str] | rw [we_var] | rw [we_glb] | rw [we_tup] | rw [we_lst] | rw [we_bin] | rw [we_neg] | rw [we_cmp] | rw [we_isN] | rw [we_inn] | rw [we_not] | rw [we_and] | rw [we_or] | rw [we_ite] | rw [we_ix] | rw [we_sl] | rw [we_rev] | rw [we_call] | rw [we_bi] | rw [we_isi] | rw [ws_nil] | rw [ws_cons] | rw [wP_one] | rw [wP_more] | rw [wA_nil] | rw [wA_cons] | rw [wo_no] | rw [wo_yes] | rw [w_late] | rw [w_peek] | rw [w_arg] | rw [w_frz] | rw [w_intR] | rw [wCall_some] | rw [wLate_n] | rw [wLate_v] | rw [wPeek_n] | rw [wPeek_v] | rw [wArg_n] | rw [wArg_v] | rw [wr_seq] | rw [wr_enum] | rw [wr_rng] | rw [wr_rng2] | rw [wOpen_v] | rw [wOpen_n] | rw [w_open] | rw [wx_for] | rw [w_turn] | rw [we_comp] | rw [w_bodyC] | rw [wp_opt] | rw [wp_bind] | (simp only [wp_ok, wO_some, wI_int, wB_t, wB_f, wF_nx, wF_rt, wF_bk, wF_ct, wV_sh, wV_lst, wL_lst, get_zero, get_succ, set_zero, set_succ, gv_zero, gv_succ, pv_sh, pv_lst, own_sh, own_lst, isV_var, truth_bl, truth_int, c_lt, c_le, c_gt, c_ge, c_eq, c_ne, o_add, o_sub, len_lst, len_tup, Bool.false_and, Bool.true_and, Bool.and_false, Bool.and_true, isV, tk_v, tk_n, tk_0, tk_1, pu_v, pu_n, pu_0, pu_1, Option.map_some, List.length_cons, List.length_nil, List.contains_cons, List.contains_nil, Bool.or_false, Bool.not_false, Bool.not_true, decide_true, decide_false, Nat.zero_add, Nat.reduceAdd, Nat.reduceLT, Nat.reduceBEq, lockCs_n, lockO_n, unlock_n, lockCs_s, lockO_s, unlock_s, slots_v, slots_t, slots_n, slots_c, asg_t, asgs_n, asgs_c, asg_v', List.singleton_append, List.append_nil, List.all_cons, List.all_nil, Option.bind_some, Bool.false_eq_true, if_false, if_true, hix]))
    exact ⟨⟨_, rfl⟩, by simp [h2]⟩
abbrev eCol : Ex := .comp (.ix (.var 4) (.var 5)) (.v 4) (.seq (.rev (.var 0))) [4]
theorem turn_body (n : Nat) (gr : List (List PV)) (st sd ln y : OV) (w i : Nat) (hl : gr.length ≤ 1000) (hr : ∀ r, r ∈ gr → r.length = w) (hk : i < w) : Wp (bodyC (Γ n) (.bi .tuple (.cons eCol .nil)) (.v 5) (.int (i : Nat)) [.sh (gpv gr), st, sd, ln, .emp, .emp]) fun o s => ∃ xs, o = some (.tup xs) ∧ xs.length = gr.length ∧ s = [.sh (gpv gr), st, sd, ln, .emp, .sh (.int (i : Nat))] := by
  have tin := turn_in n gr st sd ln w i hl hr hk
  have ha : asg (.v 5) (.int (i : Nat)) [.sh (gpv gr), st, sd, ln, .emp, .emp] = some [.sh (gpv gr), st, sd, ln, .emp, .sh (.int (i : Nat))] := rfl
  rw [w_bodyC, ha, wO_some, we_bi, wP_one, w_peek]
  rw [show isV eCol = none from rfl, wPeek_n]
  refine wp_imp tin fun o s ⟨⟨xs, eo, hxs⟩, es⟩ => ?_
  subst eo es
  have bt : bi .tuple [.lst xs] = some (.sh (.tup xs)) := rfl
  rw [pv_lst, wO_some]
  rw [bt, wO_some, pv_sh, wO_some]
  exact ⟨xs, rfl, hxs, rfl⟩
theorem turn_out (n : Nat) (r0 : List PV) (gs : List (List PV)) (st sd ln : OV) (h w : Nat) (g : Gd (r0 :: gs) h w) :
    Wp (ev (Γ n) (.comp (.bi .tuple (.cons eCol .nil)) (.v 5) (.rng (.bi .len (.cons (.ix (.var 0) (.int 0)) .nil))) [5]) [.sh (gpv (r0 :: gs)), st, sd, ln, .emp, .emp]) fun o s => ∃ gr' : List (List PV), o = .lst (gr'.map PV.tup) ∧ gr'.length = w ∧ (∀ r, r ∈ gr' → r.length = h) := by
  have hw0 := g.row r0 List.mem_cons_self
  have g2 := g.w2
  have g3 := g.h2
  have gl := g.len
  have hix := gpv_0 r0 gs
  have hln : bi .len [.tup r0] = some (.sh (.int w)) := by rw [len_tup, hw0]
  have rg : rngOk 0 (w : Int) = true := decide_eq_true (by omega)
  have hrl : (rngL 0 (w : Int)).length = w := by rw [rngL_len]; omega
  have hb : decide ((rngL 0 (w : Int)).length ≤ big) = true := decide_eq_true (by rw [hrl]; unfold big; omega)
  have hp : plainAt [.sh (gpv (r0 :: gs)), st, sd, ln, .emp, .emp] [5] = true := rfl
  generalize hgr : gpv (r0 :: gs) = G at *
  rw [we_comp, wr_rng, we_bi, wP_one, w_peek]
  rw [show isV (.ix (.var 0) (.int 0)) = none from rfl, wPeek_n, we_ix, w_late, isV_var, wLate_v, gv_zero, pv_sh, wO_some, w_frz, we_int, pv_sh, wO_some, gv_zero, pv_sh, wO_some]
  rw [hix, wO_some, pv_sh, wO_some, hln, wO_some, pv_sh, wO_some, wI_int, rg, wB_t]
  dsimp only
  rw [hp, hb, Bool.and_self, wB_t, lockO_n]
  refine wp_compL (fun i acc s => (∃ x, s = [.sh G, st, sd, ln, .emp, x]) ∧ ∃ gr' : List (List PV), acc = gr'.map PV.tup ∧ gr'.length = i ∧ ∀ r, r ∈ gr' → r.length = h) ⟨⟨_, rfl⟩, [], rfl, rfl, fun r h => by cases h⟩ (fun ys s ⟨⟨x, e⟩, gr', e2, h2, h3⟩ => ?_) fun i x acc s hx ⟨⟨y, e⟩, gr', e2, h2, h3⟩ => ?_
  · subst e2
    rw [hrl] at h2
    exact ⟨gr', rfl, h2, h3⟩
  · subst e e2
    obtain ⟨rfl, hlt⟩ := rngL_get hx
    have hw : wipeS [.sh G, st, sd, ln, .emp, y] [5] = [.sh G, st, sd, ln, .emp, .emp] := rfl
    have ez : (0 : Int) + (i : Nat) = (i : Nat) := by omega
    have tb := turn_body n (r0 :: gs) st sd ln y w i (by omega) g.row (by omega)
    rw [hgr] at tb
    rw [hw, ez]
    refine wp_imp tb fun o s ⟨xs, eo, hxs, es⟩ => ?_
    subst eo es
    refine ⟨⟨_, rfl⟩, gr' ++ [xs], by simp, by simp [h2], fun u hu => ?_⟩
    rcases List.mem_append.mp hu with z | z
    · exact h3 u z
    · rw [List.mem_singleton.mp z, hxs, gl]
end PF.K51
set_option Elab.async false
set_option linter.all false
set_option maxRecDepth 1000000
set_option maxHeartbeats 4000000
namespace PF.K51
open PySem PySem.Spec PyProof.Rows PF
def dst (h w : Nat) : Stp → Option (Nat × Nat)
  | .turn => some (w, h)
  | .mir => some (h, w)
  | .cut s => match s.vert with
    | true => if h = 1 then none else some (h - 1, w)
    | false => if w = 1 then none else some (h, w - 1)
  | .add s _ => match s.vert with
    | true => some (h + 1, w)
    | false => some (h, w + 1)
def Aft (h w : Nat) (t : Stp) (v : OV) : Prop := match dst h w t with
  | none => v = .sh .non
  | some (h', w') => ∃ gr', v.pv = some (gpv gr') ∧ gr'.length = h' ∧ ∀ r, r ∈ gr' → r.length = w'
theorem aft_none {h w : Nat} {t : Stp} {v : OV} (e : dst h w t = none) (hv : v = .sh .non) : Aft h w t v := by
  unfold Aft
  rw [e]; exact hv
theorem m_turn : cmpop .eq (.str tTurn) (.str tMir) = some false := rfl
theorem m_mir : cmpop .eq (.str tMir) (.str tMir) = some true := rfl
theorem m_cut : cmpop .eq (.str tCut) (.str tMir) = some false := rfl
theorem m_add : cmpop .eq (.str tAdd) (.str tMir) = some false := rfl
theorem c_cut : cmpop .eq (.str tCut) (.str tCut) = some true := rfl
theorem c_add : cmpop .eq (.str tAdd) (.str tCut) = some false := rfl
theorem in_tbL (s : Sd) : inop (.str s.tx) (.lst [.str tTop, .str tBot]) = some s.vert := by cases s <;> rfl
def Sd.isTop : Sd → Bool
  | .top => true
  | _ => false
def Sd.isLeft : Sd → Bool
  | .left => true
  | _ => false
theorem s_top (s : Sd) : cmpop .eq (.str s.tx) (.str tTop) = some s.isTop := by cases s <;> rfl
theorem s_left (s : Sd) : cmpop .eq (.str s.tx) (.str tLeft) = some s.isLeft := by cases s <;> rfl
theorem len_gpv (gr : List (List PV)) : bi .len [gpv gr] = some (.sh (.int gr.length)) := by rw [gpv, len_lst, List.length_map]
theorem cut_front {α : Type} (xs : List α) : PF.cut xs (some 1) none = xs.drop 1 := by
  cases xs with
  | nil => rfl
  | cons a l =>
    have e : PF.cut (a :: l) (some 1) none = ((a :: l).drop (min 1 (l.length + 1))).take ((l.length + 1) - min 1 (l.length + 1)) := rfl
    have e2 : min 1 (l.length + 1) = 1 := by omega
    rw [e, e2]
    simp
theorem cut_back {α : Type} (xs : List α) : PF.cut xs none (some (-1)) = xs.take (xs.length - 1) := by
  unfold PF.cut sIx
  simp
  congr 1
  omega
theorem map_drop (gr : List (List PV)) : (gr.map PV.tup).drop 1 = (gr.drop 1).map PV.tup := by simp
theorem map_take (gr : List (List PV)) (k : Nat) : (gr.map PV.tup).take k = (gr.take k).map PV.tup := by simp
theorem sl_front (gr : List (List PV)) : slice (gpv gr) (some 1) none = some (.lst ((gr.drop 1).map PV.tup)) := by
  show some (OV.lst (PF.cut (gr.map PV.tup) (some 1) none)) = _
  rw [cut_front, map_drop]
theorem sl_back (gr : List (List PV)) : slice (gpv gr) none (some (-1)) = some (.lst ((gr.take (gr.length - 1)).map PV.tup)) := by
  show some (OV.lst (PF.cut (gr.map PV.tup) none (some (-1)))) = _
  rw [cut_back, List.length_map, map_take]
theorem row_front (r : List PV) : slice (.tup r) (some 1) none = some (.sh (.tup (r.drop 1))) := by
  show some (OV.sh (.tup (PF.cut r (some 1) none))) = _
  rw [cut_front]
theorem row_back (r : List PV) : slice (.tup r) none (some (-1)) = some (.sh (.tup (r.take (r.length - 1)))) := by
  show some (OV.sh (.tup (PF.cut r none (some (-1))))) = _
  rw [cut_back]
theorem rev_row (r : List PV) : reversed (.tup r) = some (.sh (.tup r.reverse)) := rfl
theorem i3b (a b d : PV) : index (.tup [a, b, d]) (.int 2) = some d := rfl
theorem mul_row (x : PV) (w : Nat) (h1 : 1 ≤ w) (h2 : w ≤ 1000) : ∃ ln, binop .mul (.tup [x]) (.int w) = some (.sh (.tup ln)) ∧ ln.length = w := by
  by_cases h : (w : Int) = 1
  · refine ⟨[x], if_pos h, ?_⟩
    have : w = 1 := by omega
    rw [this]; rfl
  · refine ⟨(List.replicate (w : Int).toNat [x]).flatten, ?_, ?_⟩
    · show (if (w : Int) = 1 then _ else _) = _
      rw [if_neg h, if_pos ⟨by omega, by omega, rfl, by simp⟩]
    · simp
theorem cat_top (ln : List PV) (gr : List (List PV)) (h : gr.length ≤ 1000) : binop .add (.lst [.tup ln]) (gpv gr) = some (.lst ((ln :: gr).map PV.tup)) := by
  show (if [PV.tup ln].length + (gr.map PV.tup).length ≤ big then _ else _) = _
  rw [if_pos (by simp [big]; omega)]
  rfl
theorem cat_bot (ln : List PV) (gr : List (List PV)) (h : gr.length ≤ 1000) : binop .add (gpv gr) (.lst [.tup ln]) = some (.lst ((gr ++ [ln]).map PV.tup)) := by
  show (if (gr.map PV.tup).length + [PV.tup ln].length ≤ big then _ else _) = _
  rw [if_pos (by simp [big]; omega)]
  simp
theorem row_cat1 (x : PV) (r : List PV) (h : r.length ≤ 1000) : binop .add (.tup [x]) (.tup r) = some (.sh (.tup (x :: r))) := by
  show (if [x].length + r.length ≤ big then _ else _) = _
  rw [if_pos (by simp [big]; omega)]
  rfl
theorem row_cat2 (x : PV) (r : List PV) (h : r.length ≤ 1000) : binop .add (.tup r) (.tup [x]) = some (.sh (.tup (r ++ [x]))) := by
  show (if r.length + [x].length ≤ big then _ else _) = _
  rw [if_pos (by simp [big]; omega)]
theorem a_start (n : Nat) (r0 : List PV) (gs : List (List PV)) (h w : Nat) (g : Gd (r0 :: gs) h w) (t : Stp) : Wp (exs (Γ n) [] f_law_after.body [.sh (gpv (r0 :: gs)), .sh t.pv, .emp, .emp, .emp, .emp]) fun f s => ∃ v, f = .rt v ∧ Aft h w t v := by
  have hw0 := g.row r0 List.mem_cons_self
  have hix := gpv_0 r0 gs
  have hln : bi .len [.tup r0] = some (.sh (.int w)) := by rw [len_tup, hw0]
  have hlg : bi .len [gpv (r0 :: gs)] = some (.sh (.int h)) := by rw [len_gpv, g.len]
  have gh := g.h2
  have gw := g.w2
  have gl := g.len
  unfold f_law_after
  dsimp only
  cases t with
  | turn =>
    unfold Stp.pv
    repeat (first | rw [wx_cons] | rw [wx_nil] | rw [wx_ifs] | rw [wx_set] | rw [wx_setT] | rw [w_asgF] | rw [wx_ret] | rw [wx_retN] | rw [wx_app] | rw [wx_setIx] | rw [w_setIxR] | rw [wx_aug] | rw [wx_augIx] | rw [wx_expr] | rw [wx_par2] | rw [wx_par3] | rw [w_setV] | rw [wx_pass] | rw [wx_brk] | rw [wx_cont] | rw [wt_and] | rw [wt_or] | rw [wt_not] | rw [wt_var] | rw [wt_cmp] | rw [wt_chn] | rw [wt_isN] | rw [wt_inn] | rw [wt_call] | rw [wt_bi] | rw [wt_ix] | rw [wt_isi] | rw [we_int] | rw [we_bl] | rw [we_non] | rw [we_str] | rw [we_var] | rw [we_glb] | rw [we_tup] | rw [we_lst] | rw [we_bin] | rw [we_neg] | rw [we_cmp] | rw [we_isN] | rw [we_inn] | rw [we_not] | rw [we_and] | rw [we_or] | rw [we_ite] | rw [we_ix] | rw [we_sl] | rw [we_rev] | rw [we_call] | rw [we_bi] | rw [we_isi] | rw [ws_nil] | rw [ws_cons] | rw [wP_one] | rw [wP_more] | rw [wA_nil] | rw [wA_cons] | rw [wo_no] | rw [wo_yes] | rw [w_late] | rw [w_peek] | rw [w_arg] | rw [w_frz] | rw [w_intR] | rw [wCall_some] | rw [wLate_n] | rw [wLate_v] | rw [wPeek_n] | rw [wPeek_v] | rw [wArg_n] | rw [wArg_v] | rw [wr_seq] | rw [wr_enum] | rw [wr_rng] | rw [wr_rng2] | rw [wOpen_v] | rw [wOpen_n] | rw [w_open] | rw [wx_for] | rw [w_turn] | rw [wp_opt] | rw [wp_bind] | (simp only [wp_ok, wO_some, wI_int, wB_t, wB_f, wF_nx, wF_rt, wF_bk, wF_ct, wV_sh, wV_lst, wL_lst, get_zero, get_succ, set_zero, set_succ, gv_zero, gv_succ, pv_sh, pv_lst, own_sh, own_lst, isV_var, truth_bl, truth_int, c_lt, c_le, c_gt, c_ge, c_eq, c_ne, o_add, o_sub, len_lst, len_tup, Bool.false_and, Bool.true_and, Bool.and_false, Bool.and_true, isV, tk_v, tk_n, tk_0, tk_1, pu_v, pu_n, pu_0, pu_1, Option.map_some, List.length_cons, List.length_nil, List.contains_cons, List.contains_nil, Bool.or_false, Bool.not_false, Bool.not_true, decide_true, decide_false, Nat.zero_add, Nat.reduceAdd, Nat.reduceLT, Nat.reduceBEq, lockCs_n, lockO_n, unlock_n, lockCs_s, lockO_s, unlock_s, slots_v, slots_t, slots_n, slots_c, asg_t, asgs_n, asgs_c, asg_v', List.singleton_append, List.append_nil, List.all_cons, List.all_nil, Option.bind_some, Bool.false_eq_true, if_false, if_true, i1, e1]))
    refine wp_imp (turn_out n r0 gs _ _ _ h w g) fun o s ⟨gr', eo, h1, h2⟩ => ?_
    subst eo
    exact ⟨_, rfl, gr', rfl, h1, h2⟩
  | mir =>
    unfold Stp.pv
    repeat (first | rw [wx_cons] | rw [wx_nil] | rw [wx_ifs] | rw [wx_set] | rw [wx_setT] | rw [w_asgF] | rw [wx_ret] | rw [wx_retN] | rw [wx_app] | rw [wx_setIx] | rw [w_setIxR] | rw [wx_aug] | rw [wx_augIx] | rw [wx_expr] | rw [wx_par2] | rw [wx_par3] | rw [w_setV] | rw [wx_pass] | rw [wx_brk] | rw [wx_cont] | rw [wt_and] | rw [wt_or] | rw [wt_not] | rw [wt_var] | rw [wt_cmp] | rw [wt_chn] | rw [wt_isN] | rw [wt_inn] | rw [wt_call] | rw [wt_bi] | rw [wt_ix] | rw [wt_isi] | rw [we_int] | rw [we_bl] | rw [we_non] | rw [we_str] | rw [we_var] | rw [we_glb] | rw [we_tup] | rw [we_lst] | rw [we_bin] | rw [we_neg] | rw [we_cmp] | rw [we_isN] | rw [we_inn] | rw [we_not] | rw [we_and] | rw [we_or] | rw [we_ite] | rw [we_ix] | rw [we_sl] | rw [we_rev] | rw [we_call] | rw [we_bi] | rw [we_isi] | rw [ws_nil] | rw [ws_cons] | rw [wP_one] | rw [wP_more] | rw [wA_nil] | rw [wA_cons] | rw [wo_no] | rw [wo_yes] | rw [w_late] | rw [w_peek] | rw [w_arg] | rw [w_frz] | rw [w_intR] | rw [wCall_some] | rw [wLate_n] | rw [wLate_v] | rw [wPeek_n] | rw [wPeek_v] | rw [wArg_n] | rw [wArg_v] | rw [wr_seq] | rw [wr_enum] | rw [wr_rng] | rw [wr_rng2] | rw [wOpen_v] | rw [wOpen_n] | rw [w_open] | rw [wx_for] | rw [w_turn] | rw [wp_opt] | rw [wp_bind] | (simp only [wp_ok, wO_some, wI_int, wB_t, wB_f, wF_nx, wF_rt, wF_bk, wF_ct, wV_sh, wV_lst, wL_lst, get_zero, get_succ, set_zero, set_succ, gv_zero, gv_succ, pv_sh, pv_lst, own_sh, own_lst, isV_var, truth_bl, truth_int, c_lt, c_le, c_gt, c_ge, c_eq, c_ne, o_add, o_sub, len_lst, len_tup, Bool.false_and, Bool.true_and, Bool.and_false, Bool.and_true, isV, tk_v, tk_n, tk_0, tk_1, pu_v, pu_n, pu_0, pu_1, Option.map_some, List.length_cons, List.length_nil, List.contains_cons, List.contains_nil, Bool.or_false, Bool.not_false, Bool.not_true, decide_true, decide_false, Nat.zero_add, Nat.reduceAdd, Nat.reduceLT, Nat.reduceBEq, lockCs_n, lockO_n, unlock_n, lockCs_s, lockO_s, unlock_s, slots_v, slots_t, slots_n, slots_c, asg_t, asgs_n, asgs_c, asg_v', List.singleton_append, List.append_nil, List.all_cons, List.all_nil, Option.bind_some, Bool.false_eq_true, if_false, if_true, i1, e2, m_mir]))
    refine wp_imp (row_comp n (.rev (.var 4)) (r0 :: gs) _ _ _ _ w (by omega) fun r hr => ?_) fun o s ⟨gr', eo, h1, h2, _⟩ => ?_
    · repeat (first | rw [wx_cons] | rw [wx_nil] | rw [wx_ifs] | rw [wx_set] | rw [wx_setT] | rw [w_asgF] | rw [wx_ret] | rw [wx_retN] | rw [wx_app] | rw [wx_setIx] | rw [w_setIxR] | rw [wx_aug] | rw [wx_augIx] | rw [wx_expr] | rw [wx_par2] | rw [wx_par3] | rw [w_setV] | rw [wx_pass] | rw [wx_brk] | rw [wx_cont] | rw [wt_and] | rw [wt_or] | rw [wt_not] | rw [wt_var] | rw [wt_cmp] | rw [wt_chn] | rw [wt_isN] | rw [wt_inn] | rw [wt_call] | rw [wt_bi] | rw [wt_ix] | rw [wt_isi] | rw [we_int] | rw [we_bl] | rw [we_non] | rw [we_str] | rw [we_var] | rw [we_glb] | rw [we_tup] | rw [we_lst] | rw [we_bin] | rw [we_neg] | rw [we_cmp] | rw [we_isN] | rw [we_inn] | rw [we_not] | rw [we_and] | rw [we_or] | rw [we_ite] | rw [we_ix] | rw [we_sl] | rw [we_rev] | rw [we_call] | rw [we_bi] | rw [we_isi] | rw [ws_nil] | rw [ws_cons] | rw [wP_one] | rw [wP_more] | rw [wA_nil] | rw [wA_cons] | rw [wo_no] | rw [wo_yes] | rw [w_late] | rw [w_peek] | rw [w_arg] | rw [w_frz] | rw [w_intR] | rw [wCall_some] | rw [wLate_n] | rw [wLate_v] | rw [wPeek_n] | rw [wPeek_v] | rw [wArg_n] | rw [wArg_v] | rw [wr_seq] | rw [wr_enum] | rw [wr_rng] | rw [wr_rng2] | rw [wOpen_v] | rw [wOpen_n] | rw [w_open] | rw [wx_for] | rw [w_turn] | rw [wp_opt] | rw [wp_bind] | (simp only [wp_ok, wO_some, wI_int, wB_t, wB_f, wF_nx, wF_rt, wF_bk, wF_ct, wV_sh, wV_lst, wL_lst, get_zero, get_succ, set_zero, set_succ, gv_zero, gv_succ, pv_sh, pv_lst, own_sh, own_lst, isV_var, truth_bl, truth_int, c_lt, c_le, c_gt, c_ge, c_eq, c_ne, o_add, o_sub, len_lst, len_tup, Bool.false_and, Bool.true_and, Bool.and_false, Bool.and_true, isV, tk_v, tk_n, tk_0, tk_1, pu_v, pu_n, pu_0, pu_1, Option.map_some, List.length_cons, List.length_nil, List.contains_cons, List.contains_nil, Bool.or_false, Bool.not_false, Bool.not_true, decide_true, decide_false, Nat.zero_add, Nat.reduceAdd, Nat.reduceLT, Nat.reduceBEq, lockCs_n, lockO_n, unlock_n, lockCs_s, lockO_s, unlock_s, slots_v, slots_t, slots_n, slots_c, asg_t, asgs_n, asgs_c, asg_v', List.singleton_append, List.append_nil, List.all_cons, List.all_nil, Option.bind_some, Bool.false_eq_true, if_false, if_true, rev_row]))
      exact ⟨⟨_, rfl, by rw [List.length_reverse]; exact g.row r hr⟩, trivial⟩
    · subst eo
      exact ⟨_, rfl, gr', rfl, by rw [h1]; exact gl, h2⟩
  | cut s =>
    unfold Stp.pv
    cases hv : s.vert with
    | true =>
      by_cases h1 : h = 1
      · have hh : (((h : Nat) : Int) == 1) = true := by simp [h1]
        repeat (first | rw [wx_cons] | rw [wx_nil] | rw [wx_ifs] | rw [wx_set] | rw [wx_setT] | rw [w_asgF] | rw [wx_ret] | rw [wx_retN] | rw [wx_app] | rw [wx_setIx] | rw [w_setIxR] | rw [wx_aug] | rw [wx_augIx] | rw [wx_expr] | rw [wx_par2] | rw [wx_par3] | rw [w_setV] | rw [wx_pass] | rw [wx_brk] | rw [wx_cont] | rw [wt_and] | rw [wt_or] | rw [wt_not] | rw [wt_var] | rw [wt_cmp] | rw [wt_chn] | rw [wt_isN] | rw [wt_inn] | rw [wt_call] | rw [wt_bi] | rw [wt_ix] | rw [wt_isi] | rw [we_int] | rw [we_bl] | rw [we_non] | rw [we_str] | rw [we_var] | rw [we_glb] | rw [we_tup] | rw [we_lst] | rw [we_bin] | rw [we_neg] | rw [we_cmp] | rw [we_isN] | rw [we_inn] | rw [we_not] | rw [we_and] | rw [we_or] | rw [we_ite] | rw [we_ix] | rw [we_sl] | rw [we_rev] | rw [we_call] | rw [we_bi] | rw [we_isi] | rw [ws_nil] | rw [ws_cons] | rw [wP_one] | rw [wP_more] | rw [wA_nil] | rw [wA_cons] | rw [wo_no] | rw [wo_yes] | rw [w_late] | rw [w_peek] | rw [w_arg] | rw [w_frz] | rw [w_intR] | rw [wCall_some] | rw [wLate_n] | rw [wLate_v] | rw [wPeek_n] | rw [wPeek_v] | rw [wArg_n] | rw [wArg_v] | rw [wr_seq] | rw [wr_enum] | rw [wr_rng] | rw [wr_rng2] | rw [wOpen_v] | rw [wOpen_n] | rw [w_open] | rw [wx_for] | rw [w_turn] | rw [wp_opt] | rw [wp_bind] | (simp only [wp_ok, wO_some, wI_int, wB_t, wB_f, wF_nx, wF_rt, wF_bk, wF_ct, wV_sh, wV_lst, wL_lst, get_zero, get_succ, set_zero, set_succ, gv_zero, gv_succ, pv_sh, pv_lst, own_sh, own_lst, isV_var, truth_bl, truth_int, c_lt, c_le, c_gt, c_ge, c_eq, c_ne, o_add, o_sub, len_lst, len_tup, Bool.false_and, Bool.true_and, Bool.and_false, Bool.and_true, isV, tk_v, tk_n, tk_0, tk_1, pu_v, pu_n, pu_0, pu_1, Option.map_some, List.length_cons, List.length_nil, List.contains_cons, List.contains_nil, Bool.or_false, Bool.not_false, Bool.not_true, decide_true, decide_false, Nat.zero_add, Nat.reduceAdd, Nat.reduceLT, Nat.reduceBEq, lockCs_n, lockO_n, unlock_n, lockCs_s, lockO_s, unlock_s, slots_v, slots_t, slots_n, slots_c, asg_t, asgs_n, asgs_c, asg_v', List.singleton_append, List.append_nil, List.all_cons, List.all_nil, Option.bind_some, Bool.false_eq_true, if_false, if_true, i2, e3, m_cut, i4, c_cut, in_tbL, hv, hlg, hh, bne_self_eq_false, Bool.bne_false]))
        exact ⟨_, rfl, aft_none (by unfold dst; simp only [hv]; rw [if_pos h1]) rfl⟩
      · have hh : (((h : Nat) : Int) == 1) = false := by simp; omega
        have g1 := g.h1
        have fin : ∀ gr' : List (List PV), gr'.length = h - 1 → (∀ r, r ∈ gr' → r ∈ r0 :: gs) → Aft h w (.cut s) (.sh (gpv gr')) ∧ Aft h w (.cut s) (.lst (gr'.map PV.tup)) := fun gr' e1 e2 => by
          unfold Aft dst
          simp only [hv]
          rw [if_neg h1]
          exact ⟨⟨gr', rfl, e1, fun r hr => g.row r (e2 r hr)⟩, ⟨gr', rfl, e1, fun r hr => g.row r (e2 r hr)⟩⟩
        cases ht : s.isTop with
        | true =>
          repeat (first | rw [wx_cons] | rw [wx_nil] | rw [wx_ifs] | rw [wx_set] | rw [wx_setT] | rw [w_asgF] | rw [wx_ret] | rw [wx_retN] | rw [wx_app] | rw [wx_setIx] | rw [w_setIxR] | rw [wx_aug] | rw [wx_augIx] | rw [wx_expr] | rw [wx_par2] | rw [wx_par3] | rw [w_setV] | rw [wx_pass] | rw [wx_brk] | rw [wx_cont] | rw [wt_and] | rw [wt_or] | rw [wt_not] | rw [wt_var] | rw [wt_cmp] | rw [wt_chn] | rw [wt_isN] | rw [wt_inn] | rw [wt_call] | rw [wt_bi] | rw [wt_ix] | rw [wt_isi] | rw [we_int] | rw [we_bl] | rw [we_non] | rw [we_str] | rw [we_var] | rw [we_glb] | rw [we_tup] | rw [we_lst] | rw [we_bin] | rw [we_neg] | rw [we_cmp] | rw [we_isN] | rw [we_inn] | rw [we_not] | rw [we_and] | rw [we_or] | rw [we_ite] | rw [we_ix] | rw [we_sl] | rw [we_rev] | rw [we_call] | rw [we_bi] | rw [we_isi] | rw [ws_nil] | rw [ws_cons] | rw [wP_one] | rw [wP_more] | rw [wA_nil] | rw [wA_cons] | rw [wo_no] | rw [wo_yes] | rw [w_late] | rw [w_peek] | rw [w_arg] | rw [w_frz] | rw [w_intR] | rw [wCall_some] | rw [wLate_n] | rw [wLate_v] | rw [wPeek_n] | rw [wPeek_v] | rw [wArg_n] | rw [wArg_v] | rw [wr_seq] | rw [wr_enum] | rw [wr_rng] | rw [wr_rng2] | rw [wOpen_v] | rw [wOpen_n] | rw [w_open] | rw [wx_for] | rw [w_turn] | rw [wp_opt] | rw [wp_bind] | (simp only [wp_ok, wO_some, wI_int, wB_t, wB_f, wF_nx, wF_rt, wF_bk, wF_ct, wV_sh, wV_lst, wL_lst, get_zero, get_succ, set_zero, set_succ, gv_zero, gv_succ, pv_sh, pv_lst, own_sh, own_lst, isV_var, truth_bl, truth_int, c_lt, c_le, c_gt, c_ge, c_eq, c_ne, o_add, o_sub, len_lst, len_tup, Bool.false_and, Bool.true_and, Bool.and_false, Bool.and_true, isV, tk_v, tk_n, tk_0, tk_1, pu_v, pu_n, pu_0, pu_1, Option.map_some, List.length_cons, List.length_nil, List.contains_cons, List.contains_nil, Bool.or_false, Bool.not_false, Bool.not_true, decide_true, decide_false, Nat.zero_add, Nat.reduceAdd, Nat.reduceLT, Nat.reduceBEq, lockCs_n, lockO_n, unlock_n, lockCs_s, lockO_s, unlock_s, slots_v, slots_t, slots_n, slots_c, asg_t, asgs_n, asgs_c, asg_v', List.singleton_append, List.append_nil, List.all_cons, List.all_nil, Option.bind_some, Bool.false_eq_true, if_false, if_true, i2, e3, m_cut, i4, c_cut, in_tbL, hv, hlg, hh, bne_self_eq_false, Bool.bne_false, s_top, ht, sl_front]))
          exact ⟨_, rfl, (fin _ (by rw [List.length_drop, gl]) fun r hr => List.mem_of_mem_drop hr).2⟩
        | false =>
          repeat (first | rw [wx_cons] | rw [wx_nil] | rw [wx_ifs] | rw [wx_set] | rw [wx_setT] | rw [w_asgF] | rw [wx_ret] | rw [wx_retN] | rw [wx_app] | rw [wx_setIx] | rw [w_setIxR] | rw [wx_aug] | rw [wx_augIx] | rw [wx_expr] | rw [wx_par2] | rw [wx_par3] | rw [w_setV] | rw [wx_pass] | rw [wx_brk] | rw [wx_cont] | rw [wt_and] | rw [wt_or] | rw [wt_not] | rw [wt_var] | rw [wt_cmp] | rw [wt_chn] | rw [wt_isN] | rw [wt_inn] | rw [wt_call] | rw [wt_bi] | rw [wt_ix] | rw [wt_isi] | rw [we_int] | rw [we_bl] | rw [we_non] | rw [we_str] | rw [we_var] | rw [we_glb] | rw [we_tup] | rw [we_lst] | rw [we_bin] | rw [we_neg] | rw [we_cmp] | rw [we_isN] | rw [we_inn] | rw [we_not] | rw [we_and] | rw [we_or] | rw [we_ite] | rw [we_ix] | rw [we_sl] | rw [we_rev] | rw [we_call] | rw [we_bi] | rw [we_isi] | rw [ws_nil] | rw [ws_cons] | rw [wP_one] | rw [wP_more] | rw [wA_nil] | rw [wA_cons] | rw [wo_no] | rw [wo_yes] | rw [w_late] | rw [w_peek] | rw [w_arg] | rw [w_frz] | rw [w_intR] | rw [wCall_some] | rw [wLate_n] | rw [wLate_v] | rw [wPeek_n] | rw [wPeek_v] | rw [wArg_n] | rw [wArg_v] | rw [wr_seq] | rw [wr_enum] | rw [wr_rng] | rw [wr_rng2] | rw [wOpen_v] | rw [wOpen_n] | rw [w_open] | rw [wx_for] | rw [w_turn] | rw [wp_opt] | rw [wp_bind] | (simp only [wp_ok, wO_some, wI_int, wB_t, wB_f, wF_nx, wF_rt, wF_bk, wF_ct, wV_sh, wV_lst, wL_lst, get_zero, get_succ, set_zero, set_succ, gv_zero, gv_succ, pv_sh, pv_lst, own_sh, own_lst, isV_var, truth_bl, truth_int, c_lt, c_le, c_gt, c_ge, c_eq, c_ne, o_add, o_sub, len_lst, len_tup, Bool.false_and, Bool.true_and, Bool.and_false, Bool.and_true, isV, tk_v, tk_n, tk_0, tk_1, pu_v, pu_n, pu_0, pu_1, Option.map_some, List.length_cons, List.length_nil, List.contains_cons, List.contains_nil, Bool.or_false, Bool.not_false, Bool.not_true, decide_true, decide_false, Nat.zero_add, Nat.reduceAdd, Nat.reduceLT, Nat.reduceBEq, lockCs_n, lockO_n, unlock_n, lockCs_s, lockO_s, unlock_s, slots_v, slots_t, slots_n, slots_c, asg_t, asgs_n, asgs_c, asg_v', List.singleton_append, List.append_nil, List.all_cons, List.all_nil, Option.bind_some, Bool.false_eq_true, if_false, if_true, i2, e3, m_cut, i4, c_cut, in_tbL, hv, hlg, hh, bne_self_eq_false, Bool.bne_false, s_top, ht, sl_back]))
          exact ⟨_, rfl, (fin _ (by have gl' : gs.length + 1 = h := gl; rw [List.length_take, List.length_cons]; omega) fun r hr => List.mem_of_mem_take hr).2⟩
    | false =>
      by_cases h1 : w = 1
      · have hh : (((w : Nat) : Int) == 1) = true := by simp [h1]
        repeat (first | rw [wx_cons] | rw [wx_nil] | rw [wx_ifs] | rw [wx_set] | rw [wx_setT] | rw [w_asgF] | rw [wx_ret] | rw [wx_retN] | rw [wx_app] | rw [wx_setIx] | rw [w_setIxR] | rw [wx_aug] | rw [wx_augIx] | rw [wx_expr] | rw [wx_par2] | rw [wx_par3] | rw [w_setV] | rw [wx_pass] | rw [wx_brk] | rw [wx_cont] | rw [wt_and] | rw [wt_or] | rw [wt_not] | rw [wt_var] | rw [wt_cmp] | rw [wt_chn] | rw [wt_isN] | rw [wt_inn] | rw [wt_call] | rw [wt_bi] | rw [wt_ix] | rw [wt_isi] | rw [we_int] | rw [we_bl] | rw [we_non] | rw [we_str] | rw [we_var] | rw [we_glb] | rw [we_tup] | rw [we_lst] | rw [we_bin] | rw [we_neg] | rw [we_cmp] | rw [we_isN] | rw [we_inn] | rw [we_not] | rw [we_and] | rw [we_or] | rw [we_ite] | rw [we_ix] | rw [we_sl] | rw [we_rev] | rw [we_call] | rw [we_bi] | rw [we_isi] | rw [ws_nil] | rw [ws_cons] | rw [wP_one] | rw [wP_more] | rw [wA_nil] | rw [wA_cons] | rw [wo_no] | rw [wo_yes] | rw [w_late] | rw [w_peek] | rw [w_arg] | rw [w_frz] | rw [w_intR] | rw [wCall_some] | rw [wLate_n] | rw [wLate_v] | rw [wPeek_n] | rw [wPeek_v] | rw [wArg_n] | rw [wArg_v] | rw [wr_seq] | rw [wr_enum] | rw [wr_rng] | rw [wr_rng2] | rw [wOpen_v] | rw [wOpen_n] | rw [w_open] | rw [wx_for] | rw [w_turn] | rw [wp_opt] | rw [wp_bind] | (simp only [wp_ok, wO_some, wI_int, wB_t, wB_f, wF_nx, wF_rt, wF_bk, wF_ct, wV_sh, wV_lst, wL_lst, get_zero, get_succ, set_zero, set_succ, gv_zero, gv_succ, pv_sh, pv_lst, own_sh, own_lst, isV_var, truth_bl, truth_int, c_lt, c_le, c_gt, c_ge, c_eq, c_ne, o_add, o_sub, len_lst, len_tup, Bool.false_and, Bool.true_and, Bool.and_false, Bool.and_true, isV, tk_v, tk_n, tk_0, tk_1, pu_v, pu_n, pu_0, pu_1, Option.map_some, List.length_cons, List.length_nil, List.contains_cons, List.contains_nil, Bool.or_false, Bool.not_false, Bool.not_true, decide_true, decide_false, Nat.zero_add, Nat.reduceAdd, Nat.reduceLT, Nat.reduceBEq, lockCs_n, lockO_n, unlock_n, lockCs_s, lockO_s, unlock_s, slots_v, slots_t, slots_n, slots_c, asg_t, asgs_n, asgs_c, asg_v', List.singleton_append, List.append_nil, List.all_cons, List.all_nil, Option.bind_some, Bool.false_eq_true, if_false, if_true, i2, e3, m_cut, i4, c_cut, in_tbL, hv, hix, hln, hh, bne_self_eq_false, Bool.bne_false]))
        exact ⟨_, rfl, aft_none (by unfold dst; simp only [hv]; rw [if_pos h1]) rfl⟩
      · have hh : (((w : Nat) : Int) == 1) = false := by simp; omega
        have g1 := g.w1
        repeat (first | rw [wx_cons] | rw [wx_nil] | rw [wx_ifs] | rw [wx_set] | rw [wx_setT] | rw [w_asgF] | rw [wx_ret] | rw [wx_retN] | rw [wx_app] | rw [wx_setIx] | rw [w_setIxR] | rw [wx_aug] | rw [wx_augIx] | rw [wx_expr] | rw [wx_par2] | rw [wx_par3] | rw [w_setV] | rw [wx_pass] | rw [wx_brk] | rw [wx_cont] | rw [wt_and] | rw [wt_or] | rw [wt_not] | rw [wt_var] | rw [wt_cmp] | rw [wt_chn] | rw [wt_isN] | rw [wt_inn] | rw [wt_call] | rw [wt_bi] | rw [wt_ix] | rw [wt_isi] | rw [we_int] | rw [we_bl] | rw [we_non] | rw [we_str] | rw [we_var] | rw [we_glb] | rw [we_tup] | rw [we_lst] | rw [we_bin] | rw [we_neg] | rw [we_cmp] | rw [we_isN] | rw [we_inn] | rw [we_not] | rw [we_and] | rw [we_or] | rw [we_ite] | rw [we_ix] | rw [we_sl] | rw [we_rev] | rw [we_call] | rw [we_bi] | rw [we_isi] | rw [ws_nil] | rw [ws_cons] | rw [wP_one] | rw [wP_more] | rw [wA_nil] | rw [wA_cons] | rw [wo_no] | rw [wo_yes] | rw [w_late] | rw [w_peek] | rw [w_arg] | rw [w_frz] | rw [w_intR] | rw [wCall_some] | rw [wLate_n] | rw [wLate_v] | rw [wPeek_n] | rw [wPeek_v] | rw [wArg_n] | rw [wArg_v] | rw [wr_seq] | rw [wr_enum] | rw [wr_rng] | rw [wr_rng2] | rw [wOpen_v] | rw [wOpen_n] | rw [w_open] | rw [wx_for] | rw [w_turn] | rw [wp_opt] | rw [wp_bind] | (simp only [wp_ok, wO_some, wI_int, wB_t, wB_f, wF_nx, wF_rt, wF_bk, wF_ct, wV_sh, wV_lst, wL_lst, get_zero, get_succ, set_zero, set_succ, gv_zero, gv_succ, pv_sh, pv_lst, own_sh, own_lst, isV_var, truth_bl, truth_int, c_lt, c_le, c_gt, c_ge, c_eq, c_ne, o_add, o_sub, len_lst, len_tup, Bool.false_and, Bool.true_and, Bool.and_false, Bool.and_true, isV, tk_v, tk_n, tk_0, tk_1, pu_v, pu_n, pu_0, pu_1, Option.map_some, List.length_cons, List.length_nil, List.contains_cons, List.contains_nil, Bool.or_false, Bool.not_false, Bool.not_true, decide_true, decide_false, Nat.zero_add, Nat.reduceAdd, Nat.reduceLT, Nat.reduceBEq, lockCs_n, lockO_n, unlock_n, lockCs_s, lockO_s, unlock_s, slots_v, slots_t, slots_n, slots_c, asg_t, asgs_n, asgs_c, asg_v', List.singleton_append, List.append_nil, List.all_cons, List.all_nil, Option.bind_some, Bool.false_eq_true, if_false, if_true, i2, e3, m_cut, i4, c_cut, in_tbL, hv, hix, hln, hh, bne_self_eq_false, Bool.bne_false]))
        refine wp_imp (row_comp n _ (r0 :: gs) _ _ _ _ (w - 1) (by omega) fun r hr => ?_) fun o s' ⟨gr', eo, h2, h3, _⟩ => ?_
        · have hrw := g.row r hr
          cases ht : s.isLeft with
          | true =>
            repeat (first | rw [wx_cons] | rw [wx_nil] | rw [wx_ifs] | rw [wx_set] | rw [wx_setT] | rw [w_asgF] | rw [wx_ret] | rw [wx_retN] | rw [wx_app] | rw [wx_setIx] | rw [w_setIxR] | rw [wx_aug] | rw [wx_augIx] | rw [wx_expr] | rw [wx_par2] | rw [wx_par3] | rw [w_setV] | rw [wx_pass] | rw [wx_brk] | rw [wx_cont] | rw [wt_and] | rw [wt_or] | rw [wt_not] | rw [wt_var] | rw [wt_cmp] | rw [wt_chn] | rw [wt_isN] | rw [wt_inn] | rw [wt_call] | rw [wt_bi] | rw [wt_ix] | rw [wt_isi] | rw [we_int] | rw [we_bl] | rw [we_non] | rw [we_str] | rw [we_var] | rw [we_glb] | rw [we_tup] | rw [we_lst] | rw [we_bin] | rw [we_neg] | rw [we_cmp] | rw [we_isN] | rw [we_inn] | rw [we_not] | rw [we_and] | rw [we_or] | rw [we_ite] | rw [we_ix] | rw [we_sl] | rw [we_rev] | rw [we_call] | rw [we_bi] | rw [we_isi] | rw [ws_nil] | rw [ws_cons] | rw [wP_one] | rw [wP_more] | rw [wA_nil] | rw [wA_cons] | rw [wo_no] | rw [wo_yes] | rw [w_late] | rw [w_peek] | rw [w_arg] | rw [w_frz] | rw [w_intR] | rw [wCall_some] | rw [wLate_n] | rw [wLate_v] | rw [wPeek_n] | rw [wPeek_v] | rw [wArg_n] | rw [wArg_v] | rw [wr_seq] | rw [wr_enum] | rw [wr_rng] | rw [wr_rng2] | rw [wOpen_v] | rw [wOpen_n] | rw [w_open] | rw [wx_for] | rw [w_turn] | rw [wp_opt] | rw [wp_bind] | (simp only [wp_ok, wO_some, wI_int, wB_t, wB_f, wF_nx, wF_rt, wF_bk, wF_ct, wV_sh, wV_lst, wL_lst, get_zero, get_succ, set_zero, set_succ, gv_zero, gv_succ, pv_sh, pv_lst, own_sh, own_lst, isV_var, truth_bl, truth_int, c_lt, c_le, c_gt, c_ge, c_eq, c_ne, o_add, o_sub, len_lst, len_tup, Bool.false_and, Bool.true_and, Bool.and_false, Bool.and_true, isV, tk_v, tk_n, tk_0, tk_1, pu_v, pu_n, pu_0, pu_1, Option.map_some, List.length_cons, List.length_nil, List.contains_cons, List.contains_nil, Bool.or_false, Bool.not_false, Bool.not_true, decide_true, decide_false, Nat.zero_add, Nat.reduceAdd, Nat.reduceLT, Nat.reduceBEq, lockCs_n, lockO_n, unlock_n, lockCs_s, lockO_s, unlock_s, slots_v, slots_t, slots_n, slots_c, asg_t, asgs_n, asgs_c, asg_v', List.singleton_append, List.append_nil, List.all_cons, List.all_nil, Option.bind_some, Bool.false_eq_true, if_false, if_true, s_left, ht, row_front]))
            exact ⟨⟨_, rfl, by rw [List.length_drop, hrw]⟩, trivial⟩
          | false =>
            repeat (first | rw [wx_cons] | rw [wx_nil] | rw [wx_ifs] | rw [wx_set] | rw [wx_setT] | rw [w_asgF] | rw [wx_ret] | rw [wx_retN] | rw [wx_app] | rw [wx_setIx] | rw [w_setIxR] | rw [wx_aug] | rw [wx_augIx] | rw [wx_expr] | rw [wx_par2] | rw [wx_par3] | rw [w_setV] | rw [wx_pass] | rw [wx_brk] | rw [wx_cont] | rw [wt_and] | rw [wt_or] | rw [wt_not] | rw [wt_var] | rw [wt_cmp] | rw [wt_chn] | rw [wt_isN] | rw [wt_inn] | rw [wt_call] | rw [wt_bi] | rw [wt_ix] | rw [wt_isi] | rw [we_int] | rw [we_bl] | rw [we_non] | rw [we_str] | rw [we_var] | rw [we_glb] | rw [we_tup] | rw [we_lst] | rw [we_bin] | rw [we_neg] | rw [we_cmp] | rw [we_isN] | rw [we_inn] | rw [we_not] | rw [we_and] | rw [we_or] | rw [we_ite] | rw [we_ix] | rw [we_sl] | rw [we_rev] | rw [we_call] | rw [we_bi] | rw [we_isi] | rw [ws_nil] | rw [ws_cons] | rw [wP_one] | rw [wP_more] | rw [wA_nil] | rw [wA_cons] | rw [wo_no] | rw [wo_yes] | rw [w_late] | rw [w_peek] | rw [w_arg] | rw [w_frz] | rw [w_intR] | rw [wCall_some] | rw [wLate_n] | rw [wLate_v] | rw [wPeek_n] | rw [wPeek_v] | rw [wArg_n] | rw [wArg_v] | rw [wr_seq] | rw [wr_enum] | rw [wr_rng] | rw [wr_rng2] | rw [wOpen_v] | rw [wOpen_n] | rw [w_open] | rw [wx_for] | rw [w_turn] | rw [wp_opt] | rw [wp_bind] | (simp only [wp_ok, wO_some, wI_int, wB_t, wB_f, wF_nx, wF_rt, wF_bk, wF_ct, wV_sh, wV_lst, wL_lst, get_zero, get_succ, set_zero, set_succ, gv_zero, gv_succ, pv_sh, pv_lst, own_sh, own_lst, isV_var, truth_bl, truth_int, c_lt, c_le, c_gt, c_ge, c_eq, c_ne, o_add, o_sub, len_lst, len_tup, Bool.false_and, Bool.true_and, Bool.and_false, Bool.and_true, isV, tk_v, tk_n, tk_0, tk_1, pu_v, pu_n, pu_0, pu_1, Option.map_some, List.length_cons, List.length_nil, List.contains_cons, List.contains_nil, Bool.or_false, Bool.not_false, Bool.not_true, decide_true, decide_false, Nat.zero_add, Nat.reduceAdd, Nat.reduceLT, Nat.reduceBEq, lockCs_n, lockO_n, unlock_n, lockCs_s, lockO_s, unlock_s, slots_v, slots_t, slots_n, slots_c, asg_t, asgs_n, asgs_c, asg_v', List.singleton_append, List.append_nil, List.all_cons, List.all_nil, Option.bind_some, Bool.false_eq_true, if_false, if_true, s_left, ht, row_back]))
            exact ⟨⟨_, rfl, by rw [List.length_take]; omega⟩, trivial⟩
        · subst eo
          refine ⟨_, rfl, ?_⟩
          unfold Aft dst
          simp only [hv]
          rw [if_neg h1]
          exact ⟨gr', rfl, by rw [h2]; exact gl, h3⟩
  | add s k =>
    unfold Stp.pv
    have gw1 := g.w1
    obtain ⟨ln, eln, hlnl⟩ := mul_row (.int k) w gw1 (by omega)
    cases hv : s.vert with
    | true =>
      have fin : ∀ gr' : List (List PV), gr'.length = h + 1 → (∀ r, r ∈ gr' → r = ln ∨ r ∈ r0 :: gs) → Aft h w (.add s k) (.lst (gr'.map PV.tup)) := fun gr' e1 e2 => by
        unfold Aft dst
        simp only [hv]
        exact ⟨gr', rfl, e1, fun r hr => (e2 r hr).elim (fun e => by rw [e]; exact hlnl) fun e => g.row r e⟩
      cases ht : s.isTop with
      | true =>
        repeat (first | rw [wx_cons] | rw [wx_nil] | rw [wx_ifs] | rw [wx_set] | rw [wx_setT] | rw [w_asgF] | rw [wx_ret] | rw [wx_retN] | rw [wx_app] | rw [wx_setIx] | rw [w_setIxR] | rw [wx_aug] | rw [wx_augIx] | rw [wx_expr] | rw [wx_par2] | rw [wx_par3] | rw [w_setV] | rw [wx_pass] | rw [wx_brk] | rw [wx_cont] | rw [wt_and] | rw [wt_or] | rw [wt_not] | rw [wt_var] | rw [wt_cmp] | rw [wt_chn] | rw [wt_isN] | rw [wt_inn] | rw [wt_call] | rw [wt_bi] | rw [wt_ix] | rw [wt_isi] | rw [we_int] | rw [we_bl] | rw [we_non] | rw [we_str] | rw [we_var] | rw [we_glb] | rw [we_tup] | rw [we_lst] | rw [we_bin] | rw [we_neg] | rw [we_cmp] | rw [we_isN] | rw [we_inn] | rw [we_not] | rw [we_and] | rw [we_or] | rw [we_ite] | rw [we_ix] | rw [we_sl] | rw [we_rev] | rw [we_call] | rw [we_bi] | rw [we_isi] | rw [ws_nil] | rw [ws_cons] | rw [wP_one] | rw [wP_more] | rw [wA_nil] | rw [wA_cons] | rw [wo_no] | rw [wo_yes] | rw [w_late] | rw [w_peek] | rw [w_arg] | rw [w_frz] | rw [w_intR] | rw [wCall_some] | rw [wLate_n] | rw [wLate_v] | rw [wPeek_n] | rw [wPeek_v] | rw [wArg_n] | rw [wArg_v] | rw [wr_seq] | rw [wr_enum] | rw [wr_rng] | rw [wr_rng2] | rw [wOpen_v] | rw [wOpen_n] | rw [w_open] | rw [wx_for] | rw [w_turn] | rw [wp_opt] | rw [wp_bind] | (simp only [wp_ok, wO_some, wI_int, wB_t, wB_f, wF_nx, wF_rt, wF_bk, wF_ct, wV_sh, wV_lst, wL_lst, get_zero, get_succ, set_zero, set_succ, gv_zero, gv_succ, pv_sh, pv_lst, own_sh, own_lst, isV_var, truth_bl, truth_int, c_lt, c_le, c_gt, c_ge, c_eq, c_ne, o_add, o_sub, len_lst, len_tup, Bool.false_and, Bool.true_and, Bool.and_false, Bool.and_true, isV, tk_v, tk_n, tk_0, tk_1, pu_v, pu_n, pu_0, pu_1, Option.map_some, List.length_cons, List.length_nil, List.contains_cons, List.contains_nil, Bool.or_false, Bool.not_false, Bool.not_true, decide_true, decide_false, Nat.zero_add, Nat.reduceAdd, Nat.reduceLT, Nat.reduceBEq, lockCs_n, lockO_n, unlock_n, lockCs_s, lockO_s, unlock_s, slots_v, slots_t, slots_n, slots_c, asg_t, asgs_n, asgs_c, asg_v', List.singleton_append, List.append_nil, List.all_cons, List.all_nil, Option.bind_some, Bool.false_eq_true, if_false, if_true, i3, e4, m_add, i5, c_add, i3b, in_tbL, hv, hix, hln, eln, bne_self_eq_false, Bool.bne_false, s_top, ht, cat_top ln (r0 :: gs) (by omega)]))
        exact ⟨_, rfl, fin (ln :: r0 :: gs) (by simp at gl ⊢; omega) fun r hr => (List.mem_cons.mp hr).imp id id⟩
      | false =>
        repeat (first | rw [wx_cons] | rw [wx_nil] | rw [wx_ifs] | rw [wx_set] | rw [wx_setT] | rw [w_asgF] | rw [wx_ret] | rw [wx_retN] | rw [wx_app] | rw [wx_setIx] | rw [w_setIxR] | rw [wx_aug] | rw [wx_augIx] | rw [wx_expr] | rw [wx_par2] | rw [wx_par3] | rw [w_setV] | rw [wx_pass] | rw [wx_brk] | rw [wx_cont] | rw [wt_and] | rw [wt_or] | rw [wt_not] | rw [wt_var] | rw [wt_cmp] | rw [wt_chn] | rw [wt_isN] | rw [wt_inn] | rw [wt_call] | rw [wt_bi] | rw [wt_ix] | rw [wt_isi] | rw [we_int] | rw [we_bl] | rw [we_non] | rw [we_str] | rw [we_var] | rw [we_glb] | rw [we_tup] | rw [we_lst] | rw [we_bin] | rw [we_neg] | rw [we_cmp] | rw [we_isN] | rw [we_inn] | rw [we_not] | rw [we_and] | rw [we_or] | rw [we_ite] | rw [we_ix] | rw [we_sl] | rw [we_rev] | rw [we_call] | rw [we_bi] | rw [we_isi] | rw [ws_nil] | rw [ws_cons] | rw [wP_one] | rw [wP_more] | rw [wA_nil] | rw [wA_cons] | rw [wo_no] | rw [wo_yes] | rw [w_late] | rw [w_peek] | rw [w_arg] | rw [w_frz] | rw [w_intR] | rw [wCall_some] | rw [wLate_n] | rw [wLate_v] | rw [wPeek_n] | rw [wPeek_v] | rw [wArg_n] | rw [wArg_v] | rw [wr_seq] | rw [wr_enum] | rw [wr_rng] | rw [wr_rng2] | rw [wOpen_v] | rw [wOpen_n] | rw [w_open] | rw [wx_for] | rw [w_turn] | rw [wp_opt] | rw [wp_bind] | (simp only [wp_ok, wO_some, wI_int, wB_t, wB_f, wF_nx, wF_rt, wF_bk, wF_ct, wV_sh, wV_lst, wL_lst, get_zero, get_succ, set_zero, set_succ, gv_zero, gv_succ, pv_sh, pv_lst, own_sh, own_lst, isV_var, truth_bl, truth_int, c_lt, c_le, c_gt, c_ge, c_eq, c_ne, o_add, o_sub, len_lst, len_tup, Bool.false_and, Bool.true_and, Bool.and_false, Bool.and_true, isV, tk_v, tk_n, tk_0, tk_1, pu_v, pu_n, pu_0, pu_1, Option.map_some, List.length_cons, List.length_nil, List.contains_cons, List.contains_nil, Bool.or_false, Bool.not_false, Bool.not_true, decide_true, decide_false, Nat.zero_add, Nat.reduceAdd, Nat.reduceLT, Nat.reduceBEq, lockCs_n, lockO_n, unlock_n, lockCs_s, lockO_s, unlock_s, slots_v, slots_t, slots_n, slots_c, asg_t, asgs_n, asgs_c, asg_v', List.singleton_append, List.append_nil, List.all_cons, List.all_nil, Option.bind_some, Bool.false_eq_true, if_false, if_true, i3, e4, m_add, i5, c_add, i3b, in_tbL, hv, hix, hln, eln, bne_self_eq_false, Bool.bne_false, s_top, ht, cat_bot ln (r0 :: gs) (by omega)]))
        exact ⟨_, rfl, fin ((r0 :: gs) ++ [ln]) (by simp at gl ⊢; omega) fun r hr => (List.mem_append.mp hr).symm.imp (fun e => List.mem_singleton.mp e) id⟩
    | false =>
      repeat (first | rw [wx_cons] | rw [wx_nil] | rw [wx_ifs] | rw [wx_set] | rw [wx_setT] | rw [w_asgF] | rw [wx_ret] | rw [wx_retN] | rw [wx_app] | rw [wx_setIx] | rw [w_setIxR] | rw [wx_aug] | rw [wx_augIx] | rw [wx_expr] | rw [wx_par2] | rw [wx_par3] | rw [w_setV] | rw [wx_pass] | rw [wx_brk] | rw [wx_cont] | rw [wt_and] | rw [wt_or] | rw [wt_not] | rw [wt_var] | rw [wt_cmp] | rw [wt_chn] | rw [wt_isN] | rw [wt_inn] | rw [wt_call] | rw [wt_bi] | rw [wt_ix] | rw [wt_isi] | rw [we_int] | rw [we_bl] | rw [we_non] | rw [we_str] | rw [we_var] | rw [we_glb] | rw [we_tup] | rw [we_lst] | rw [we_bin] | rw [we_neg] | rw [we_cmp] | rw [we_isN] | rw [we_inn] | rw [we_not] | rw [we_and] | rw [we_or] | rw [we_ite] | rw [we_ix] | rw [we_sl] | rw [we_rev] | rw [we_call] | rw [we_bi] | rw [we_isi] | rw [ws_nil] | rw [ws_cons] | rw [wP_one] | rw [wP_more] | rw [wA_nil] | rw [wA_cons] | rw [wo_no] | rw [wo_yes] | rw [w_late] | rw [w_peek] | rw [w_arg] | rw [w_frz] | rw [w_intR] | rw [wCall_some] | rw [wLate_n] | rw [wLate_v] | rw [wPeek_n] | rw [wPeek_v] | rw [wArg_n] | rw [wArg_v] | rw [wr_seq] | rw [wr_enum] | rw [wr_rng] | rw [wr_rng2] | rw [wOpen_v] | rw [wOpen_n] | rw [w_open] | rw [wx_for] | rw [w_turn] | rw [wp_opt] | rw [wp_bind] | (simp only [wp_ok, wO_some, wI_int, wB_t, wB_f, wF_nx, wF_rt, wF_bk, wF_ct, wV_sh, wV_lst, wL_lst, get_zero, get_succ, set_zero, set_succ, gv_zero, gv_succ, pv_sh, pv_lst, own_sh, own_lst, isV_var, truth_bl, truth_int, c_lt, c_le, c_gt, c_ge, c_eq, c_ne, o_add, o_sub, len_lst, len_tup, Bool.false_and, Bool.true_and, Bool.and_false, Bool.and_true, isV, tk_v, tk_n, tk_0, tk_1, pu_v, pu_n, pu_0, pu_1, Option.map_some, List.length_cons, List.length_nil, List.contains_cons, List.contains_nil, Bool.or_false, Bool.not_false, Bool.not_true, decide_true, decide_false, Nat.zero_add, Nat.reduceAdd, Nat.reduceLT, Nat.reduceBEq, lockCs_n, lockO_n, unlock_n, lockCs_s, lockO_s, unlock_s, slots_v, slots_t, slots_n, slots_c, asg_t, asgs_n, asgs_c, asg_v', List.singleton_append, List.append_nil, List.all_cons, List.all_nil, Option.bind_some, Bool.false_eq_true, if_false, if_true, i3, e4, m_add, i5, c_add, i3b, in_tbL, hv, hix, hln, eln, bne_self_eq_false, Bool.bne_false]))
      refine wp_imp (row_comp n _ (r0 :: gs) _ _ _ _ (w + 1) (by omega) fun r hr => ?_) fun o s' ⟨gr', eo, h2, h3, _⟩ => ?_
      · have hrw := g.row r hr
        cases ht : s.isLeft with
        | true =>
          repeat (first | rw [wx_cons] | rw [wx_nil] | rw [wx_ifs] | rw [wx_set] | rw [wx_setT] | rw [w_asgF] | rw [wx_ret] | rw [wx_retN] | rw [wx_app] | rw [wx_setIx] | rw [w_setIxR] | rw [wx_aug] | rw [wx_augIx] | rw [wx_expr] | rw [wx_par2] | rw [wx_par3] | rw [w_setV] | rw [wx_pass] | rw [wx_brk] | rw [wx_cont] | rw [wt_and] | rw [wt_or] | rw [wt_not] | rw [wt_var] | rw [wt_cmp] | rw [wt_chn] | rw [wt_isN] | rw [wt_inn] | rw [wt_call] | rw [wt_bi] | rw [wt_ix] | rw [wt_isi] | rw [we_int] | rw [we_bl] | rw [we_non] | rw [we_str] | rw [we_var] | rw [we_glb] | rw [we_tup] | rw [we_lst] | rw [we_bin] | rw [we_neg] | rw [we_cmp] | rw [we_isN] | rw [we_inn] | rw [we_not] | rw [we_and] | rw [we_or] | rw [we_ite] | rw [we_ix] | rw [we_sl] | rw [we_rev] | rw [we_call] | rw [we_bi] | rw [we_isi] | rw [ws_nil] | rw [ws_cons] | rw [wP_one] | rw [wP_more] | rw [wA_nil] | rw [wA_cons] | rw [wo_no] | rw [wo_yes] | rw [w_late] | rw [w_peek] | rw [w_arg] | rw [w_frz] | rw [w_intR] | rw [wCall_some] | rw [wLate_n] | rw [wLate_v] | rw [wPeek_n] | rw [wPeek_v] | rw [wArg_n] | rw [wArg_v] | rw [wr_seq] | rw [wr_enum] | rw [wr_rng] | rw [wr_rng2] | rw [wOpen_v] | rw [wOpen_n] | rw [w_open] | rw [wx_for] | rw [w_turn] | rw [wp_opt] | rw [wp_bind] | (simp only [wp_ok, wO_some, wI_int, wB_t, wB_f, wF_nx, wF_rt, wF_bk, wF_ct, wV_sh, wV_lst, wL_lst, get_zero, get_succ, set_zero, set_succ, gv_zero, gv_succ, pv_sh, pv_lst, own_sh, own_lst, isV_var, truth_bl, truth_int, c_lt, c_le, c_gt, c_ge, c_eq, c_ne, o_add, o_sub, len_lst, len_tup, Bool.false_and, Bool.true_and, Bool.and_false, Bool.and_true, isV, tk_v, tk_n, tk_0, tk_1, pu_v, pu_n, pu_0, pu_1, Option.map_some, List.length_cons, List.length_nil, List.contains_cons, List.contains_nil, Bool.or_false, Bool.not_false, Bool.not_true, decide_true, decide_false, Nat.zero_add, Nat.reduceAdd, Nat.reduceLT, Nat.reduceBEq, lockCs_n, lockO_n, unlock_n, lockCs_s, lockO_s, unlock_s, slots_v, slots_t, slots_n, slots_c, asg_t, asgs_n, asgs_c, asg_v', List.singleton_append, List.append_nil, List.all_cons, List.all_nil, Option.bind_some, Bool.false_eq_true, if_false, if_true, s_left, ht, i3b, row_cat1 (.int k) r (by omega)]))
          exact ⟨⟨_, rfl, by simp; omega⟩, trivial⟩
        | false =>
          repeat (first | rw [wx_cons] | rw [wx_nil] | rw [wx_ifs] | rw [wx_set] | rw [wx_setT] | rw [w_asgF] | rw [wx_ret] | rw [wx_retN] | rw [wx_app] | rw [wx_setIx] | rw [w_setIxR] | rw [wx_aug] | rw [wx_augIx] | rw [wx_expr] | rw [wx_par2] | rw [wx_par3] | rw [w_setV] | rw [wx_pass] | rw [wx_brk] | rw [wx_cont] | rw [wt_and] | rw [wt_or] | rw [wt_not] | rw [wt_var] | rw [wt_cmp] | rw [wt_chn] | rw [wt_isN] | rw [wt_inn] | rw [wt_call] | rw [wt_bi] | rw [wt_ix] | rw [wt_isi] | rw [we_int] | rw [we_bl] | rw [we_non] | rw [we_str] | rw [we_var] | rw [we_glb] | rw [we_tup] | rw [we_lst] | rw [we_bin] | rw [we_neg] | rw [we_cmp] | rw [we_isN] | rw [we_inn] | rw [we_not] | rw [we_and] | rw [we_or] | rw [we_ite] | rw [we_ix] | rw [we_sl] | rw [we_rev] | rw [we_call] | rw [we_bi] | rw [we_isi] | rw [ws_nil] | rw [ws_cons] | rw [wP_one] | rw [wP_more] | rw [wA_nil] | rw [wA_cons] | rw [wo_no] | rw [wo_yes] | rw [w_late] | rw [w_peek] | rw [w_arg] | rw [w_frz] | rw [w_intR] | rw [wCall_some] | rw [wLate_n] | rw [wLate_v] | rw [wPeek_n] | rw [wPeek_v] | rw [wArg_n] | rw [wArg_v] | rw [wr_seq] | rw [wr_enum] | rw [wr_rng] | rw [wr_rng2] | rw [wOpen_v] | rw [wOpen_n] | rw [w_open] | rw [wx_for] | rw [w_turn] | rw [wp_opt] | rw [wp_bind] | (simp only [wp_ok, wO_some, wI_int, wB_t, wB_f, wF_nx, wF_rt, wF_bk, wF_ct, wV_sh, wV_lst, wL_lst, get_zero, get_succ, set_zero, set_succ, gv_zero, gv_succ, pv_sh, pv_lst, own_sh, own_lst, isV_var, truth_bl, truth_int, c_lt, c_le, c_gt, c_ge, c_eq, c_ne, o_add, o_sub, len_lst, len_tup, Bool.false_and, Bool.true_and, Bool.and_false, Bool.and_true, isV, tk_v, tk_n, tk_0, tk_1, pu_v, pu_n, pu_0, pu_1, Option.map_some, List.length_cons, List.length_nil, List.contains_cons, List.contains_nil, Bool.or_false, Bool.not_false, Bool.not_true, decide_true, decide_false, Nat.zero_add, Nat.reduceAdd, Nat.reduceLT, Nat.reduceBEq, lockCs_n, lockO_n, unlock_n, lockCs_s, lockO_s, unlock_s, slots_v, slots_t, slots_n, slots_c, asg_t, asgs_n, asgs_c, asg_v', List.singleton_append, List.append_nil, List.all_cons, List.all_nil, Option.bind_some, Bool.false_eq_true, if_false, if_true, s_left, ht, i3b, row_cat2 (.int k) r (by omega)]))
          exact ⟨⟨_, rfl, by simp; omega⟩, trivial⟩
      · subst eo
        refine ⟨_, rfl, ?_⟩
        unfold Aft dst
        simp only [hv]
        exact ⟨gr', rfl, by rw [h2]; exact gl, h3⟩
theorem c_after (n : Nat) (gr : List (List PV)) (h w : Nat) (g : Gd gr h w) (t : Stp) : Wp (c (n + 1) 9 [.sh (gpv gr), .sh t.pv]) fun v o => Aft h w t v ∧ o = [.emp, .emp] := by
  have h1 := g.h1
  have gl := g.len
  cases gr with
  | nil => simp at gl; omega
  | cons r0 gs =>
    rw [c_succ n 9 f_law_after rfl]
    refine run_ret (pad := [.sh (gpv (r0 :: gs)), .sh t.pv, .emp, .emp, .emp, .emp]) rfl rfl ?_
    show Wp (exs (Γ n) [] f_law_after.body _) _
    refine wp_imp (a_start n r0 gs h w g t) fun f s ⟨v, e, ha⟩ => ?_
    subst e
    exact ⟨ha, rfl⟩
end PF.K51
set_option Elab.async false
set_option linter.all false
set_option maxRecDepth 100000
set_option maxHeartbeats 4000000
namespace PF.K51
open PySem PySem.Spec PyProof.Rows PF
abbrev eRow : Ex := .comp (.bin .add (.bin .add (.var 2) (.bin .mul (.var 3) (.var 1))) (.var 4)) (.v 4) (.rng (.var 1)) [4]
theorem cells_in (n : Nat) (ht : OV) (w : Nat) (x a : Int) (hw : w ≤ 900) (ha : 0 ≤ a) (ha2 : a ≤ 1000) : Wp (ev (Γ n) (.comp (.bin .add (.bin .add (.var 2) (.bin .mul (.var 3) (.var 1))) (.var 4)) (.v 4) (.rng (.var 1)) [4]) [ht, .sh (.int w), .sh (.int x), .sh (.int a), .emp]) fun o s => (∃ xs, o = .lst xs ∧ xs.length = w) ∧ s = [ht, .sh (.int w), .sh (.int x), .sh (.int a), .emp] := by
  have rg : rngOk 0 (w : Int) = true := decide_eq_true (by omega)
  have hrl : (rngL 0 (w : Int)).length = w := by rw [rngL_len]; omega
  have hb : decide ((rngL 0 (w : Int)).length ≤ big) = true := decide_eq_true (by rw [hrl]; unfold big; omega)
  have hp : plainAt [ht, .sh (.int w), .sh (.int x), .sh (.int a), .emp] [4] = true := rfl
  have mm := o_mulL (a := a) (b := (w : Int)) (by omega)
  rw [we_comp, wr_rng, we_var, get_succ, get_zero, wV_sh, pv_sh, wO_some, wI_int, rg, wB_t]
  dsimp only
  rw [hp, hb, Bool.and_self, wB_t, lockO_n]
  refine wp_compL (fun i acc s => (∃ y, s = [ht, .sh (.int w), .sh (.int x), .sh (.int a), y]) ∧ acc.length = i) ⟨⟨_, rfl⟩, rfl⟩ (fun ys s ⟨⟨y, e⟩, h2⟩ => ?_) fun i v acc s hx ⟨⟨y, e⟩, h2⟩ => ?_
  · subst e
    rw [hrl] at h2
    exact ⟨⟨ys, rfl, h2⟩, rfl⟩
  · subst e
    obtain ⟨rfl, hlt⟩ := rngL_get hx
    have hwp : wipeS [ht, .sh (.int w), .sh (.int x), .sh (.int a), y] [4] = [ht, .sh (.int w), .sh (.int x), .sh (.int a), .emp] := rfl
    rw [hwp, w_bodyC]
    repeat (first | rw [wx_cons] | rw [wx_nil] | rw [wx_ifs] | rw [wx_set] | rw [wx_setT] | rw [w_asgF] | rw [wx_ret] | rw [wx_retN] | rw [wx_app] | rw [wx_setIx] | rw [w_setIxR] | rw [wx_aug] | rw [wx_augIx] | rw [wx_expr] | rw [wx_par2] | rw [wx_par3] | rw [w_setV] | rw [wx_pass] | rw [wx_brk] | rw [wx_cont] | rw [wt_and] | rw [wt_or] | rw [wt_not] | rw [wt_var] | rw [wt_cmp] | rw [wt_chn] | rw [wt_isN] | rw [wt_inn] | rw [wt_call] | rw [wt_bi] | rw [wt_ix] | rw [wt_isi] | rw [we_int] | rw [we_bl] | rw [we_non] | rw [we_str] | rw [we_var] | rw [we_glb] | rw [we_tup] | rw [we_lst] | rw [we_bin] | rw [we_neg] | rw [we_cmp] | rw [we_isN] | rw [we_inn] | rw [we_not] | rw [we_and] | rw [we_or] | rw [we_ite] | rw [we_ix] | rw [we_sl] | rw [we_rev] | rw [we_call] | rw [we_bi] | rw [we_isi] | rw [ws_nil] | rw [ws_cons] | rw [wP_one] | rw [wP_more] | rw [wA_nil] | rw [wA_cons] | rw [wo_no] | rw [wo_yes] | rw [w_late] | rw [w_peek] | rw [w_arg] | rw [w_frz] | rw [w_intR] | rw [wCall_some] | rw [wLate_n] | rw [wLate_v] | rw [wPeek_n] | rw [wPeek_v] | rw [wArg_n] | rw [wArg_v] | rw [wr_seq] | rw [wr_enum] | rw [wr_rng] | rw [wr_rng2] | rw [wOpen_v] | rw [wOpen_n] | rw [w_open] | rw [wx_for] | rw [w_turn] | rw [we_comp] | rw [w_bodyC] | rw [wp_opt] | rw [wp_bind] | (simp only [wp_ok, wO_some, wI_int, wB_t, wB_f, wF_nx, wF_rt, wF_bk, wF_ct, wV_sh, wV_lst, wL_lst, get_zero, get_succ, set_zero, set_succ, gv_zero, gv_succ, pv_sh, pv_lst, own_sh, own_lst, isV_var, truth_bl, truth_int, c_lt, c_le, c_gt, c_ge, c_eq, c_ne, o_add, o_sub, len_lst, len_tup, Bool.false_and, Bool.true_and, Bool.and_false, Bool.and_true, isV, tk_v, tk_n, tk_0, tk_1, pu_v, pu_n, pu_0, pu_1, Option.map_some, List.length_cons, List.length_nil, List.contains_cons, List.contains_nil, Bool.or_false, Bool.not_false, Bool.not_true, decide_true, decide_false, Nat.zero_add, Nat.reduceAdd, Nat.reduceLT, Nat.reduceBEq, lockCs_n, lockO_n, unlock_n, lockCs_s, lockO_s, unlock_s, slots_v, slots_t, slots_n, slots_c, asg_t, asgs_n, asgs_c, asg_v', List.singleton_append, List.append_nil, List.all_cons, List.all_nil, Option.bind_some, Bool.false_eq_true, if_false, if_true, mm]))
    exact ⟨⟨_, rfl⟩, by simp [h2]⟩
theorem cells_body (n : Nat) (ht : OV) (w i : Nat) (x : Int) (hw : w ≤ 900) (hi : i ≤ 900) : Wp (bodyC (Γ n) (.bi .tuple (.cons eRow .nil)) (.v 3) (.int (i : Nat)) [ht, .sh (.int w), .sh (.int x), .emp, .emp]) fun o s => ∃ xs, o = some (.tup xs) ∧ xs.length = w ∧ s = [ht, .sh (.int w), .sh (.int x), .sh (.int (i : Nat)), .emp] := by
  have tin := cells_in n ht w x (i : Nat) hw (by omega) (by omega)
  have ha : asg (.v 3) (.int (i : Nat)) [ht, .sh (.int w), .sh (.int x), .emp, .emp] = some [ht, .sh (.int w), .sh (.int x), .sh (.int (i : Nat)), .emp] := rfl
  rw [w_bodyC, ha, wO_some, we_bi, wP_one, w_peek]
  rw [show isV eRow = none from rfl, wPeek_n]
  refine wp_imp tin fun o s ⟨⟨xs, eo, hxs⟩, es⟩ => ?_
  subst eo es
  have bt : bi .tuple [.lst xs] = some (.sh (.tup xs)) := rfl
  rw [pv_lst, wO_some]
  rw [bt, wO_some, pv_sh, wO_some]
  exact ⟨xs, rfl, hxs, rfl⟩
theorem c_cells (n : Nat) (h w : Nat) (x : Int) (hh : h ≤ 900) (hw : w ≤ 900) : Wp (c (n + 1) 11 [.sh (.int h), .sh (.int w), .sh (.int x)]) fun v o => ∃ gr : List (List PV), v = .lst (gr.map PV.tup) ∧ gr.length = h ∧ (∀ r, r ∈ gr → r.length = w) ∧ o = [.emp, .emp, .emp] := by
  rw [c_succ n 11 f_law_cells rfl]
  refine run_ret (pad := [.sh (.int h), .sh (.int w), .sh (.int x), .emp, .emp]) rfl rfl ?_
  show Wp (exs (Γ n) [] (.cons (.ret (.comp (.bi .tuple (.cons eRow .nil)) (.v 3) (.rng (.var 0)) [3])) .nil) _) _
  have rg : rngOk 0 (h : Int) = true := decide_eq_true (by omega)
  have hrl : (rngL 0 (h : Int)).length = h := by rw [rngL_len]; omega
  have hb : decide ((rngL 0 (h : Int)).length ≤ big) = true := decide_eq_true (by rw [hrl]; unfold big; omega)
  have hp : plainAt [.sh (.int h), .sh (.int w), .sh (.int x), .emp, .emp] [3] = true := rfl
  rw [wx_cons, wx_ret, we_comp, wr_rng, we_var, get_zero, wV_sh, pv_sh, wO_some, wI_int, rg, wB_t]
  dsimp only
  rw [hp, hb, Bool.and_self, wB_t, lockO_n]
  refine wp_compL (fun i acc s => (∃ y, s = [.sh (.int h), .sh (.int w), .sh (.int x), y, .emp]) ∧ ∃ gr' : List (List PV), acc = gr'.map PV.tup ∧ gr'.length = i ∧ ∀ r, r ∈ gr' → r.length = w) ⟨⟨_, rfl⟩, [], rfl, rfl, fun r h => by cases h⟩ (fun ys s ⟨⟨y, e⟩, gr', e2, h2, h3⟩ => ?_) fun i v acc s hx ⟨⟨y, e⟩, gr', e2, h2, h3⟩ => ?_
  · subst e2
    rw [hrl] at h2
    exact ⟨gr', rfl, h2, h3, rfl⟩
  · subst e e2
    obtain ⟨rfl, hlt⟩ := rngL_get hx
    have hwp : wipeS [.sh (.int h), .sh (.int w), .sh (.int x), y, .emp] [3] = [.sh (.int h), .sh (.int w), .sh (.int x), .emp, .emp] := rfl
    have ez : (0 : Int) + (i : Nat) = (i : Nat) := by omega
    rw [hwp, ez]
    refine wp_imp (cells_body n (.sh (.int h)) w i x hw (by omega)) fun o s ⟨xs, eo, hxs, es⟩ => ?_
    subst eo es
    refine ⟨⟨_, rfl⟩, gr' ++ [xs], by simp, by simp [h2], fun u hu => ?_⟩
    rcases List.mem_append.mp hu with z | z
    · exact h3 u z
    · rw [List.mem_singleton.mp z, hxs]
end PF.K51
set_option Elab.async false
set_option linter.all false
set_option maxRecDepth 1000000
set_option maxHeartbeats 4000000
namespace PF.K51
open PySem PySem.Spec PyProof.Rows PF
def dstp (o : Option (Nat × Nat)) (t : Stp) : Option (Nat × Nat) := o.bind fun p => dst p.1 p.2 t
def runD (h w : Nat) (ts : List Stp) : Option (Nat × Nat) := ts.foldl dstp (some (h, w))
theorem fold_none (ts : List Stp) : ts.foldl dstp none = none := by
  induction ts with
  | nil => rfl
  | cons t ts ih => exact ih
theorem runD_none {h w : Nat} {ts : List Stp} {i : Nat} (e : runD h w (ts.take i) = none) : runD h w ts = none := by
  have q : ts = ts.take i ++ ts.drop i := (List.take_append_drop i ts).symm
  rw [q, runD, List.foldl_append]
  unfold runD at e
  rw [e, fold_none]
theorem runD_succ {h w : Nat} {ts : List Stp} {i : Nat} {t : Stp} (e : ts[i]? = some t) : runD h w (ts.take (i + 1)) = dstp (runD h w (ts.take i)) t := by
  have q : ts.take (i + 1) = ts.take i ++ [t] := by
    rw [List.take_succ, e]; rfl
  rw [q, runD, List.foldl_append]
  rfl
theorem dst_le {h w : Nat} {t : Stp} {h' w' : Nat} (e : dst h w t = some (h', w')) (h1 : 1 ≤ h) (w1 : 1 ≤ w) {m : Nat} (hm : h ≤ m) (wm : w ≤ m) : 1 ≤ h' ∧ 1 ≤ w' ∧ h' ≤ m + 1 ∧ w' ≤ m + 1 := by
  cases t with
  | turn => cases e; omega
  | mir => cases e; omega
  | cut s =>
    cases hs : s.vert with
    | true =>
      simp only [dst, hs] at e
      split at e
      · cases e
      · cases e; omega
    | false =>
      simp only [dst, hs] at e
      split at e
      · cases e
      · cases e; omega
  | add s k =>
    cases hs : s.vert with
    | true => simp only [dst, hs] at e; cases e; omega
    | false => simp only [dst, hs] at e; cases e; omega
/-- the grid's state at turn i -/
def RunS (ts : List Stp) (h w m i : Nat) (g0 : PV) (s : S) : Prop := ∃ (gr : List (List PV)) (h' w' : Nat) (cur y : OV), s = [.sh g0, .sh (.lst (ts.map Stp.pv)), cur, y] ∧ runD h w (ts.take i) = some (h', w') ∧ (cur = .sh (gpv gr) ∨ cur = .lst (gr.map PV.tup)) ∧ gr.length = h' ∧ (∀ r, r ∈ gr → r.length = w') ∧ 1 ≤ h' ∧ 1 ≤ w' ∧ h' ≤ m + i ∧ w' ≤ m + i
theorem cst9 (n : Nat) : (Γ n).cst 9 = [] := rfl
theorem len_stp (ts : List Stp) : bi .len [.lst (ts.map Stp.pv)] = some (.sh (.int ts.length)) := by rw [len_lst, List.length_map]
theorem ix_stp {ts : List Stp} {i : Nat} {t : Stp} (e : ts[i]? = some t) : index (.lst (ts.map Stp.pv)) (.int (i : Nat)) = some t.pv := by
  have hlt : i < ts.length := (List.getElem?_eq_some_iff.mp e).1
  refine ix_lst (n := i) (ixN_nn (by omega) (by rw [List.length_map]; omega)) ?_
  rw [List.getElem?_map, e]; rfl
theorem aft_some {h w h' w' : Nat} {t : Stp} {v : OV} (e : dst h w t = some (h', w')) (ha : Aft h w t v) : ∃ gr', (v = .sh (gpv gr') ∨ v = .lst (gr'.map PV.tup)) ∧ gr'.length = h' ∧ ∀ r, r ∈ gr' → r.length = w' := by
  unfold Aft at ha
  rw [e] at ha
  obtain ⟨gr', h1, h2, h3⟩ := ha
  refine ⟨gr', ?_, h2, h3⟩
  cases v with
  | emp => cases h1
  | sh v => cases h1; exact .inl rfl
  | lst v => cases h1; exact .inr rfl
  | obj c fs => cases h1
abbrev runBodyS : Sts := (.cons (.set (.v 2) (.call 9 (.cons (.var 2) (.cons (.ix (.var 1) (.var 3)) .nil))))
  (.cons (.ifs (.isN false (.var 2))
  (.cons (.ret (.lst (.cons .non (.cons (.var 3) .nil))))
  .nil)
  .nil)
  .nil))
theorem isNon_g (gr : List (List PV)) : isNon (gpv gr) = false := rfl
theorem isNon_l (l : List PV) : isNon (.lst l) = false := rfl
theorem isNon_n : isNon .non = true := rfl
theorem c_run (n : Nat) (gr : List (List PV)) (h w m : Nat) (g : Gd gr h w) (ts : List Stp) (hm : h ≤ m) (wm : w ≤ m) (hl : m + ts.length ≤ 900) : Wp (c (n + 2) 10 [.sh (gpv gr), .sh (.lst (ts.map Stp.pv))]) fun v o => (∃ x y, v = .lst [x, y] ∧ isNon x = (runD h w ts).isNone) ∧ o = [.emp, .emp] := by
  rw [c_succ (n + 1) 10 f_law_run rfl]
  refine run_ret (pad := [.sh (gpv gr), .sh (.lst (ts.map Stp.pv)), .emp, .emp]) rfl rfl ?_
  show Wp (exs (Γ (n + 1)) [] (.cons (.set (.v 2) (.var 0)) (.cons (.for_ (.v 3) (.rng (.bi .len (.cons (.var 1) .nil))) runBodyS) (.cons (.ret (.lst (.cons (.var 2) (.cons .non .nil)))) .nil))) _) _
  have rg : rngOk 0 (ts.length : Int) = true := decide_eq_true (by omega)
  rw [wx_cons, wx_set, we_var, get_zero, wV_sh]
  simp only [List.length_cons, List.length_nil, Nat.reduceAdd, Nat.reduceLT, decide_true, List.contains_nil, Bool.not_false, Bool.and_true, wB_t, wF_nx, set_zero, set_succ]
  rw [wx_cons, wx_for, wr_rng, we_bi, wP_one, w_peek, isV_var, wPeek_v, gv_succ, gv_zero, pv_sh, wO_some, len_stp, wO_some, pv_sh, wO_some, wI_int, rg, wB_t]
  dsimp only
  rw [lockO_n, lockCs_n]
  refine wp_forL (fun i s => RunS ts h w m i (gpv gr) s) ⟨gr, h, w, _, _, rfl, by rw [List.take_zero]; rfl, .inl rfl, g.len, g.row, g.h1, g.w1, by omega, by omega⟩ (fun s ⟨gr', h', w', cur, y, e, e2, hc, _⟩ => ?_) fun i z s hz ⟨gr', h', w', cur, y, e, e2, hc, g1, g2, g3, g4, g5, g6⟩ => ?_
  · subst e
    have hrl : (rngL 0 (ts.length : Int)).length = ts.length := by rw [rngL_len]; omega
    rw [hrl, List.take_length] at e2
    rcases hc with rfl | rfl
    · repeat (first | rw [wx_cons] | rw [wx_nil] | rw [wx_ifs] | rw [wx_set] | rw [wx_setT] | rw [w_asgF] | rw [wx_ret] | rw [wx_retN] | rw [wx_app] | rw [wx_setIx] | rw [w_setIxR] | rw [wx_aug] | rw [wx_augIx] | rw [wx_expr] | rw [wx_par2] | rw [wx_par3] | rw [w_setV] | rw [wx_pass] | rw [wx_brk] | rw [wx_cont] | rw [wt_and] | rw [wt_or] | rw [wt_not] | rw [wt_var] | rw [wt_cmp] | rw [wt_chn] | rw [wt_isN] | rw [wt_inn] | rw [wt_call] | rw [wt_bi] | rw [wt_ix] | rw [wt_isi] | rw [we_int] | rw [we_bl] | rw [we_non] | rw [we_str] | rw [we_var] | rw [we_glb] | rw [we_tup] | rw [we_lst] | rw [we_bin] | rw [we_neg] | rw [we_cmp] | rw [we_isN] | rw [we_inn] | rw [we_not] | rw [we_and] | rw [we_or] | rw [we_ite] | rw [we_ix] | rw [we_sl] | rw [we_rev] | rw [we_call] | rw [we_bi] | rw [we_isi] | rw [ws_nil] | rw [ws_cons] | rw [wP_one] | rw [wP_more] | rw [wA_nil] | rw [wA_cons] | rw [wo_no] | rw [wo_yes] | rw [w_late] | rw [w_peek] | rw [w_arg] | rw [w_frz] | rw [w_intR] | rw [wCall_some] | rw [wLate_n] | rw [wLate_v] | rw [wPeek_n] | rw [wPeek_v] | rw [wArg_n] | rw [wArg_v] | rw [wr_seq] | rw [wr_enum] | rw [wr_rng] | rw [wr_rng2] | rw [wOpen_v] | rw [wOpen_n] | rw [w_open] | rw [wx_for] | rw [w_turn] | rw [we_comp] | rw [w_bodyC] | rw [wp_opt] | rw [wp_bind] | (simp only [wp_ok, wO_some, wI_int, wB_t, wB_f, wF_nx, wF_rt, wF_bk, wF_ct, wV_sh, wV_lst, wL_lst, get_zero, get_succ, set_zero, set_succ, gv_zero, gv_succ, pv_sh, pv_lst, own_sh, own_lst, isV_var, truth_bl, truth_int, c_lt, c_le, c_gt, c_ge, c_eq, c_ne, o_add, o_sub, len_lst, len_tup, Bool.false_and, Bool.true_and, Bool.and_false, Bool.and_true, isV, tk_v, tk_n, tk_0, tk_1, pu_v, pu_n, pu_0, pu_1, Option.map_some, List.length_cons, List.length_nil, List.contains_cons, List.contains_nil, Bool.or_false, Bool.not_false, Bool.not_true, decide_true, decide_false, Nat.zero_add, Nat.reduceAdd, Nat.reduceLT, Nat.reduceBEq, lockCs_n, lockO_n, unlock_n, lockCs_s, lockO_s, unlock_s, slots_v, slots_t, slots_n, slots_c, asg_t, asgs_n, asgs_c, asg_v', List.singleton_append, List.append_nil, List.all_cons, List.all_nil, Option.bind_some, Bool.false_eq_true, if_false, if_true, isNon_g]))
      exact ⟨⟨_, _, rfl, by rw [e2]; rfl⟩, rfl⟩
    · repeat (first | rw [wx_cons] | rw [wx_nil] | rw [wx_ifs] | rw [wx_set] | rw [wx_setT] | rw [w_asgF] | rw [wx_ret] | rw [wx_retN] | rw [wx_app] | rw [wx_setIx] | rw [w_setIxR] | rw [wx_aug] | rw [wx_augIx] | rw [wx_expr] | rw [wx_par2] | rw [wx_par3] | rw [w_setV] | rw [wx_pass] | rw [wx_brk] | rw [wx_cont] | rw [wt_and] | rw [wt_or] | rw [wt_not] | rw [wt_var] | rw [wt_cmp] | rw [wt_chn] | rw [wt_isN] | rw [wt_inn] | rw [wt_call] | rw [wt_bi] | rw [wt_ix] | rw [wt_isi] | rw [we_int] | rw [we_bl] | rw [we_non] | rw [we_str] | rw [we_var] | rw [we_glb] | rw [we_tup] | rw [we_lst] | rw [we_bin] | rw [we_neg] | rw [we_cmp] | rw [we_isN] | rw [we_inn] | rw [we_not] | rw [we_and] | rw [we_or] | rw [we_ite] | rw [we_ix] | rw [we_sl] | rw [we_rev] | rw [we_call] | rw [we_bi] | rw [we_isi] | rw [ws_nil] | rw [ws_cons] | rw [wP_one] | rw [wP_more] | rw [wA_nil] | rw [wA_cons] | rw [wo_no] | rw [wo_yes] | rw [w_late] | rw [w_peek] | rw [w_arg] | rw [w_frz] | rw [w_intR] | rw [wCall_some] | rw [wLate_n] | rw [wLate_v] | rw [wPeek_n] | rw [wPeek_v] | rw [wArg_n] | rw [wArg_v] | rw [wr_seq] | rw [wr_enum] | rw [wr_rng] | rw [wr_rng2] | rw [wOpen_v] | rw [wOpen_n] | rw [w_open] | rw [wx_for] | rw [w_turn] | rw [we_comp] | rw [w_bodyC] | rw [wp_opt] | rw [wp_bind] | (simp only [wp_ok, wO_some, wI_int, wB_t, wB_f, wF_nx, wF_rt, wF_bk, wF_ct, wV_sh, wV_lst, wL_lst, get_zero, get_succ, set_zero, set_succ, gv_zero, gv_succ, pv_sh, pv_lst, own_sh, own_lst, isV_var, truth_bl, truth_int, c_lt, c_le, c_gt, c_ge, c_eq, c_ne, o_add, o_sub, len_lst, len_tup, Bool.false_and, Bool.true_and, Bool.and_false, Bool.and_true, isV, tk_v, tk_n, tk_0, tk_1, pu_v, pu_n, pu_0, pu_1, Option.map_some, List.length_cons, List.length_nil, List.contains_cons, List.contains_nil, Bool.or_false, Bool.not_false, Bool.not_true, decide_true, decide_false, Nat.zero_add, Nat.reduceAdd, Nat.reduceLT, Nat.reduceBEq, lockCs_n, lockO_n, unlock_n, lockCs_s, lockO_s, unlock_s, slots_v, slots_t, slots_n, slots_c, asg_t, asgs_n, asgs_c, asg_v', List.singleton_append, List.append_nil, List.all_cons, List.all_nil, Option.bind_some, Bool.false_eq_true, if_false, if_true, isNon_g]))
      exact ⟨⟨_, _, rfl, by rw [e2]; rfl⟩, rfl⟩
  · subst e
    obtain ⟨rfl, hlt⟩ := rngL_get hz
    have hlt2 : i < ts.length := by omega
    have ez : (0 : Int) + (i : Nat) = (i : Nat) := by omega
    rw [ez]
    have et : ts[i]? = some ts[i] := List.getElem?_eq_getElem hlt2
    have it := ix_stp et
    have g' : Gd gr' h' w' := ⟨g1, g2, g3, g4, by omega, by omega⟩
    have es := runD_succ (h := h) (w := w) et
    rw [e2] at es
    rw [w_turn]
    simp only [slots_v, List.all_cons, List.all_nil, List.contains_nil, Bool.not_false, Bool.and_true, wB_t, asg_v', List.length_cons, List.length_nil, Nat.reduceAdd, Nat.reduceLT, if_true, wO_some, set_succ, set_zero]
    rcases hc with rfl | rfl
    all_goals
      repeat (first | rw [wx_cons] | rw [wx_nil] | rw [wx_ifs] | rw [wx_set] | rw [wx_setT] | rw [w_asgF] | rw [wx_ret] | rw [wx_retN] | rw [wx_app] | rw [wx_setIx] | rw [w_setIxR] | rw [wx_aug] | rw [wx_augIx] | rw [wx_expr] | rw [wx_par2] | rw [wx_par3] | rw [w_setV] | rw [wx_pass] | rw [wx_brk] | rw [wx_cont] | rw [wt_and] | rw [wt_or] | rw [wt_not] | rw [wt_var] | rw [wt_cmp] | rw [wt_chn] | rw [wt_isN] | rw [wt_inn] | rw [wt_call] | rw [wt_bi] | rw [wt_ix] | rw [wt_isi] | rw [we_int] | rw [we_bl] | rw [we_non] | rw [we_str] | rw [we_var] | rw [we_glb] | rw [we_tup] | rw [we_lst] | rw [we_bin] | rw [we_neg] | rw [we_cmp] | rw [we_isN] | rw [we_inn] | rw [we_not] | rw [we_and] | rw [we_or] | rw [we_ite] | rw [we_ix] | rw [we_sl] | rw [we_rev] | rw [we_call] | rw [we_bi] | rw [we_isi] | rw [ws_nil] | rw [ws_cons] | rw [wP_one] | rw [wP_more] | rw [wA_nil] | rw [wA_cons] | rw [wo_no] | rw [wo_yes] | rw [w_late] | rw [w_peek] | rw [w_arg] | rw [w_frz] | rw [w_intR] | rw [wCall_some] | rw [wLate_n] | rw [wLate_v] | rw [wPeek_n] | rw [wPeek_v] | rw [wArg_n] | rw [wArg_v] | rw [wr_seq] | rw [wr_enum] | rw [wr_rng] | rw [wr_rng2] | rw [wOpen_v] | rw [wOpen_n] | rw [w_open] | rw [wx_for] | rw [w_turn] | rw [we_comp] | rw [w_bodyC] | rw [wp_opt] | rw [wp_bind] | (simp only [wp_ok, wO_some, wI_int, wB_t, wB_f, wF_nx, wF_rt, wF_bk, wF_ct, wV_sh, wV_lst, wL_lst, get_zero, get_succ, set_zero, set_succ, gv_zero, gv_succ, pv_sh, pv_lst, own_sh, own_lst, isV_var, truth_bl, truth_int, c_lt, c_le, c_gt, c_ge, c_eq, c_ne, o_add, o_sub, len_lst, len_tup, Bool.false_and, Bool.true_and, Bool.and_false, Bool.and_true, isV, tk_v, tk_n, tk_0, tk_1, pu_v, pu_n, pu_0, pu_1, Option.map_some, List.length_cons, List.length_nil, List.contains_cons, List.contains_nil, Bool.or_false, Bool.not_false, Bool.not_true, decide_true, decide_false, Nat.zero_add, Nat.reduceAdd, Nat.reduceLT, Nat.reduceBEq, lockCs_n, lockO_n, unlock_n, lockCs_s, lockO_s, unlock_s, slots_v, slots_t, slots_n, slots_c, asg_t, asgs_n, asgs_c, asg_v', List.singleton_append, List.append_nil, List.all_cons, List.all_nil, Option.bind_some, Bool.false_eq_true, if_false, if_true, rho_c, cst9, it]))
      refine wp_imp (c_after n gr' h' w' g' ts[i]) fun v o ⟨ha, eo⟩ => ?_
      subst eo
      cases hd : dst h' w' ts[i] with
      | none =>
        have hv : v = .sh .non := by
          unfold Aft at ha
          rw [hd] at ha; exact ha
        subst hv
        repeat (first | rw [wx_cons] | rw [wx_nil] | rw [wx_ifs] | rw [wx_set] | rw [wx_setT] | rw [w_asgF] | rw [wx_ret] | rw [wx_retN] | rw [wx_app] | rw [wx_setIx] | rw [w_setIxR] | rw [wx_aug] | rw [wx_augIx] | rw [wx_expr] | rw [wx_par2] | rw [wx_par3] | rw [w_setV] | rw [wx_pass] | rw [wx_brk] | rw [wx_cont] | rw [wt_and] | rw [wt_or] | rw [wt_not] | rw [wt_var] | rw [wt_cmp] | rw [wt_chn] | rw [wt_isN] | rw [wt_inn] | rw [wt_call] | rw [wt_bi] | rw [wt_ix] | rw [wt_isi] | rw [we_int] | rw [we_bl] | rw [we_non] | rw [we_str] | rw [we_var] | rw [we_glb] | rw [we_tup] | rw [we_lst] | rw [we_bin] | rw [we_neg] | rw [we_cmp] | rw [we_isN] | rw [we_inn] | rw [we_not] | rw [we_and] | rw [we_or] | rw [we_ite] | rw [we_ix] | rw [we_sl] | rw [we_rev] | rw [we_call] | rw [we_bi] | rw [we_isi] | rw [ws_nil] | rw [ws_cons] | rw [wP_one] | rw [wP_more] | rw [wA_nil] | rw [wA_cons] | rw [wo_no] | rw [wo_yes] | rw [w_late] | rw [w_peek] | rw [w_arg] | rw [w_frz] | rw [w_intR] | rw [wCall_some] | rw [wLate_n] | rw [wLate_v] | rw [wPeek_n] | rw [wPeek_v] | rw [wArg_n] | rw [wArg_v] | rw [wr_seq] | rw [wr_enum] | rw [wr_rng] | rw [wr_rng2] | rw [wOpen_v] | rw [wOpen_n] | rw [w_open] | rw [wx_for] | rw [w_turn] | rw [we_comp] | rw [w_bodyC] | rw [wp_opt] | rw [wp_bind] | (simp only [wp_ok, wO_some, wI_int, wB_t, wB_f, wF_nx, wF_rt, wF_bk, wF_ct, wV_sh, wV_lst, wL_lst, get_zero, get_succ, set_zero, set_succ, gv_zero, gv_succ, pv_sh, pv_lst, own_sh, own_lst, isV_var, truth_bl, truth_int, c_lt, c_le, c_gt, c_ge, c_eq, c_ne, o_add, o_sub, len_lst, len_tup, Bool.false_and, Bool.true_and, Bool.and_false, Bool.and_true, isV, tk_v, tk_n, tk_0, tk_1, pu_v, pu_n, pu_0, pu_1, Option.map_some, List.length_cons, List.length_nil, List.contains_cons, List.contains_nil, Bool.or_false, Bool.not_false, Bool.not_true, decide_true, decide_false, Nat.zero_add, Nat.reduceAdd, Nat.reduceLT, Nat.reduceBEq, lockCs_n, lockO_n, unlock_n, lockCs_s, lockO_s, unlock_s, slots_v, slots_t, slots_n, slots_c, asg_t, asgs_n, asgs_c, asg_v', List.singleton_append, List.append_nil, List.all_cons, List.all_nil, Option.bind_some, Bool.false_eq_true, if_false, if_true, isNon_n]))
        exact ⟨⟨_, _, rfl, by rw [runD_none (es.trans hd)]; rfl⟩, rfl⟩
      | some p =>
        obtain ⟨h2, w2⟩ := p
        obtain ⟨gr2, hv, k1, k2⟩ := aft_some hd ha
        obtain ⟨l1, l2, l3, l4⟩ := dst_le hd g3 g4 g5 g6
        rcases hv with rfl | rfl
        · repeat (first | rw [wx_cons] | rw [wx_nil] | rw [wx_ifs] | rw [wx_set] | rw [wx_setT] | rw [w_asgF] | rw [wx_ret] | rw [wx_retN] | rw [wx_app] | rw [wx_setIx] | rw [w_setIxR] | rw [wx_aug] | rw [wx_augIx] | rw [wx_expr] | rw [wx_par2] | rw [wx_par3] | rw [w_setV] | rw [wx_pass] | rw [wx_brk] | rw [wx_cont] | rw [wt_and] | rw [wt_or] | rw [wt_not] | rw [wt_var] | rw [wt_cmp] | rw [wt_chn] | rw [wt_isN] | rw [wt_inn] | rw [wt_call] | rw [wt_bi] | rw [wt_ix] | rw [wt_isi] | rw [we_int] | rw [we_bl] | rw [we_non] | rw [we_str] | rw [we_var] | rw [we_glb] | rw [we_tup] | rw [we_lst] | rw [we_bin] | rw [we_neg] | rw [we_cmp] | rw [we_isN] | rw [we_inn] | rw [we_not] | rw [we_and] | rw [we_or] | rw [we_ite] | rw [we_ix] | rw [we_sl] | rw [we_rev] | rw [we_call] | rw [we_bi] | rw [we_isi] | rw [ws_nil] | rw [ws_cons] | rw [wP_one] | rw [wP_more] | rw [wA_nil] | rw [wA_cons] | rw [wo_no] | rw [wo_yes] | rw [w_late] | rw [w_peek] | rw [w_arg] | rw [w_frz] | rw [w_intR] | rw [wCall_some] | rw [wLate_n] | rw [wLate_v] | rw [wPeek_n] | rw [wPeek_v] | rw [wArg_n] | rw [wArg_v] | rw [wr_seq] | rw [wr_enum] | rw [wr_rng] | rw [wr_rng2] | rw [wOpen_v] | rw [wOpen_n] | rw [w_open] | rw [wx_for] | rw [w_turn] | rw [we_comp] | rw [w_bodyC] | rw [wp_opt] | rw [wp_bind] | (simp only [wp_ok, wO_some, wI_int, wB_t, wB_f, wF_nx, wF_rt, wF_bk, wF_ct, wV_sh, wV_lst, wL_lst, get_zero, get_succ, set_zero, set_succ, gv_zero, gv_succ, pv_sh, pv_lst, own_sh, own_lst, isV_var, truth_bl, truth_int, c_lt, c_le, c_gt, c_ge, c_eq, c_ne, o_add, o_sub, len_lst, len_tup, Bool.false_and, Bool.true_and, Bool.and_false, Bool.and_true, isV, tk_v, tk_n, tk_0, tk_1, pu_v, pu_n, pu_0, pu_1, Option.map_some, List.length_cons, List.length_nil, List.contains_cons, List.contains_nil, Bool.or_false, Bool.not_false, Bool.not_true, decide_true, decide_false, Nat.zero_add, Nat.reduceAdd, Nat.reduceLT, Nat.reduceBEq, lockCs_n, lockO_n, unlock_n, lockCs_s, lockO_s, unlock_s, slots_v, slots_t, slots_n, slots_c, asg_t, asgs_n, asgs_c, asg_v', List.singleton_append, List.append_nil, List.all_cons, List.all_nil, Option.bind_some, Bool.false_eq_true, if_false, if_true, isNon_g]))
          exact ⟨gr2, h2, w2, _, _, rfl, es.trans hd, .inl rfl, k1, k2, l1, l2, l3, l4⟩
        · repeat (first | rw [wx_cons] | rw [wx_nil] | rw [wx_ifs] | rw [wx_set] | rw [wx_setT] | rw [w_asgF] | rw [wx_ret] | rw [wx_retN] | rw [wx_app] | rw [wx_setIx] | rw [w_setIxR] | rw [wx_aug] | rw [wx_augIx] | rw [wx_expr] | rw [wx_par2] | rw [wx_par3] | rw [w_setV] | rw [wx_pass] | rw [wx_brk] | rw [wx_cont] | rw [wt_and] | rw [wt_or] | rw [wt_not] | rw [wt_var] | rw [wt_cmp] | rw [wt_chn] | rw [wt_isN] | rw [wt_inn] | rw [wt_call] | rw [wt_bi] | rw [wt_ix] | rw [wt_isi] | rw [we_int] | rw [we_bl] | rw [we_non] | rw [we_str] | rw [we_var] | rw [we_glb] | rw [we_tup] | rw [we_lst] | rw [we_bin] | rw [we_neg] | rw [we_cmp] | rw [we_isN] | rw [we_inn] | rw [we_not] | rw [we_and] | rw [we_or] | rw [we_ite] | rw [we_ix] | rw [we_sl] | rw [we_rev] | rw [we_call] | rw [we_bi] | rw [we_isi] | rw [ws_nil] | rw [ws_cons] | rw [wP_one] | rw [wP_more] | rw [wA_nil] | rw [wA_cons] | rw [wo_no] | rw [wo_yes] | rw [w_late] | rw [w_peek] | rw [w_arg] | rw [w_frz] | rw [w_intR] | rw [wCall_some] | rw [wLate_n] | rw [wLate_v] | rw [wPeek_n] | rw [wPeek_v] | rw [wArg_n] | rw [wArg_v] | rw [wr_seq] | rw [wr_enum] | rw [wr_rng] | rw [wr_rng2] | rw [wOpen_v] | rw [wOpen_n] | rw [w_open] | rw [wx_for] | rw [w_turn] | rw [we_comp] | rw [w_bodyC] | rw [wp_opt] | rw [wp_bind] | (simp only [wp_ok, wO_some, wI_int, wB_t, wB_f, wF_nx, wF_rt, wF_bk, wF_ct, wV_sh, wV_lst, wL_lst, get_zero, get_succ, set_zero, set_succ, gv_zero, gv_succ, pv_sh, pv_lst, own_sh, own_lst, isV_var, truth_bl, truth_int, c_lt, c_le, c_gt, c_ge, c_eq, c_ne, o_add, o_sub, len_lst, len_tup, Bool.false_and, Bool.true_and, Bool.and_false, Bool.and_true, isV, tk_v, tk_n, tk_0, tk_1, pu_v, pu_n, pu_0, pu_1, Option.map_some, List.length_cons, List.length_nil, List.contains_cons, List.contains_nil, Bool.or_false, Bool.not_false, Bool.not_true, decide_true, decide_false, Nat.zero_add, Nat.reduceAdd, Nat.reduceLT, Nat.reduceBEq, lockCs_n, lockO_n, unlock_n, lockCs_s, lockO_s, unlock_s, slots_v, slots_t, slots_n, slots_c, asg_t, asgs_n, asgs_c, asg_v', List.singleton_append, List.append_nil, List.all_cons, List.all_nil, Option.bind_some, Bool.false_eq_true, if_false, if_true, isNon_l]))
          exact ⟨gr2, h2, w2, _, _, rfl, es.trans hd, .inr rfl, k1, k2, l1, l2, l3, l4⟩
end PF.K51
set_option Elab.async false
set_option linter.all false
set_option maxRecDepth 1000000
set_option maxHeartbeats 4000000
namespace PF.K51
open PySem PySem.Spec PyProof.Rows PF
theorem cst10 (n : Nat) : (Γ n).cst 10 = [] := rfl
theorem cst11 (n : Nat) : (Γ n).cst 11 = [] := rfl
theorem cst12 (n : Nat) : (Γ n).cst 12 = [] := rfl
theorem gd_cells {gr : List (List PV)} {h w : Nat} (h1 : 1 ≤ h) (w1 : 1 ≤ w) (h2 : h ≤ 900) (w2 : w ≤ 900) (e1 : gr.length = h) (e2 : ∀ r, r ∈ gr → r.length = w) : Gd gr h w := ⟨e1, e2, h1, w1, h2, w2⟩
theorem ix_two (x y : PV) : index (.lst [x, y]) (.int 0) = some x := ix_lst (n := 0) (ixN_nn (Int.le_refl 0) (by simp)) rfl
theorem pv_two (x y : PV) : OV.pv (.lst [x, y]) = some (.lst [x, y]) := rfl
theorem pow40 : ∃ X : Int, binop .pow (.int 10) (.int 40) = some (.sh (.int X)) := ⟨_, o_pow ⟨by decide, by decide, by decide⟩⟩
theorem runs_gen (n : Nat) (a b d : PV) (X : Int) (hX : binop .pow (.int 10) (.int 40) = some (.sh (.int X))) (I : List PV → Prop) (k : Bool)
    (h11 : Wp (c (n + 2) 11 [.sh b, .sh d, .sh (.int X)]) fun v o => (∃ g, v = .lst g ∧ I g) ∧ o = [.emp, .emp, .emp])
    (h10 : ∀ g, I g → Wp (c (n + 2) 10 [.sh (.lst g), .sh a]) fun v o => (∃ x y, v = .lst [x, y] ∧ isNon x = k) ∧ o = [.emp, .emp]) :
    Wp (c (n + 3) 12 [.sh a, .sh b, .sh d]) fun v o => v = .sh (.bl (!k)) ∧ o = [.emp, .emp, .emp] := by
  rw [c_succ (n + 2) 12 f_law_runs rfl]
  refine run_ret (pad := [.sh a, .sh b, .sh d]) rfl rfl ?_
  show Wp (exs (Γ (n + 2)) [] (.cons (.ret (.isN true (.ix (.call 10 (.cons (.call 11 (.cons (.var 1) (.cons (.var 2) (.cons (.bin .pow (.int 10) (.int 40)) .nil)))) (.cons (.var 0) .nil))) (.int 0)))) .nil) _) _
  repeat (first | rw [wx_cons] | rw [wx_nil] | rw [wx_ifs] | rw [wx_set] | rw [wx_setT] | rw [w_asgF] | rw [wx_ret] | rw [wx_retN] | rw [wx_app] | rw [wx_setIx] | rw [w_setIxR] | rw [wx_aug] | rw [wx_augIx] | rw [wx_expr] | rw [wx_par2] | rw [wx_par3] | rw [w_setV] | rw [wx_pass] | rw [wx_brk] | rw [wx_cont] | rw [wt_and] | rw [wt_or] | rw [wt_not] | rw [wt_var] | rw [wt_cmp] | rw [wt_chn] | rw [wt_isN] | rw [wt_inn] | rw [wt_call] | rw [wt_bi] | rw [wt_ix] | rw [wt_isi] | rw [we_int] | rw [we_bl] | rw [we_non] | rw [we_str] | rw [we_var] | rw [we_glb] | rw [we_tup] | rw [we_lst] | rw [we_bin] | rw [we_neg] | rw [we_cmp] | rw [we_isN] | rw [we_inn] | rw [we_not] | rw [we_and] | rw [we_or] | rw [we_ite] | rw [we_ix] | rw [we_sl] | rw [we_rev] | rw [we_call] | rw [we_bi] | rw [we_isi] | rw [ws_nil] | rw [ws_cons] | rw [wP_one] | rw [wP_more] | rw [wA_nil] | rw [wA_cons] | rw [wo_no] | rw [wo_yes] | rw [w_late] | rw [w_peek] | rw [w_arg] | rw [w_frz] | rw [w_intR] | rw [wCall_some] | rw [wLate_n] | rw [wLate_v] | rw [wPeek_n] | rw [wPeek_v] | rw [wArg_n] | rw [wArg_v] | rw [wr_seq] | rw [wr_enum] | rw [wr_rng] | rw [wr_rng2] | rw [wOpen_v] | rw [wOpen_n] | rw [w_open] | rw [wx_for] | rw [w_turn] | rw [we_comp] | rw [w_bodyC] | rw [wp_opt] | rw [wp_bind] | (simp only [wp_ok, wO_some, wI_int, wB_t, wB_f, wF_nx, wF_rt, wF_bk, wF_ct, wV_sh, wV_lst, wL_lst, get_zero, get_succ, set_zero, set_succ, gv_zero, gv_succ, pv_sh, pv_lst, own_sh, own_lst, isV_var, truth_bl, truth_int, c_lt, c_le, c_gt, c_ge, c_eq, c_ne, o_add, o_sub, len_lst, len_tup, Bool.false_and, Bool.true_and, Bool.and_false, Bool.and_true, isV, tk_v, tk_n, tk_0, tk_1, pu_v, pu_n, pu_0, pu_1, Option.map_some, List.length_cons, List.length_nil, List.contains_cons, List.contains_nil, Bool.or_false, Bool.not_false, Bool.not_true, decide_true, decide_false, Nat.zero_add, Nat.reduceAdd, Nat.reduceLT, Nat.reduceBEq, lockCs_n, lockO_n, unlock_n, lockCs_s, lockO_s, unlock_s, slots_v, slots_t, slots_n, slots_c, asg_t, asgs_n, asgs_c, asg_v', List.singleton_append, List.append_nil, List.all_cons, List.all_nil, Option.bind_some, Bool.false_eq_true, if_false, if_true, rho_c, cst10, cst11, hX]))
  refine wp_imp h11 fun v o ⟨⟨gr, e, e1⟩, eo⟩ => ?_
  subst e eo
  repeat (first | rw [wx_cons] | rw [wx_nil] | rw [wx_ifs] | rw [wx_set] | rw [wx_setT] | rw [w_asgF] | rw [wx_ret] | rw [wx_retN] | rw [wx_app] | rw [wx_setIx] | rw [w_setIxR] | rw [wx_aug] | rw [wx_augIx] | rw [wx_expr] | rw [wx_par2] | rw [wx_par3] | rw [w_setV] | rw [wx_pass] | rw [wx_brk] | rw [wx_cont] | rw [wt_and] | rw [wt_or] | rw [wt_not] | rw [wt_var] | rw [wt_cmp] | rw [wt_chn] | rw [wt_isN] | rw [wt_inn] | rw [wt_call] | rw [wt_bi] | rw [wt_ix] | rw [wt_isi] | rw [we_int] | rw [we_bl] | rw [we_non] | rw [we_str] | rw [we_var] | rw [we_glb] | rw [we_tup] | rw [we_lst] | rw [we_bin] | rw [we_neg] | rw [we_cmp] | rw [we_isN] | rw [we_inn] | rw [we_not] | rw [we_and] | rw [we_or] | rw [we_ite] | rw [we_ix] | rw [we_sl] | rw [we_rev] | rw [we_call] | rw [we_bi] | rw [we_isi] | rw [ws_nil] | rw [ws_cons] | rw [wP_one] | rw [wP_more] | rw [wA_nil] | rw [wA_cons] | rw [wo_no] | rw [wo_yes] | rw [w_late] | rw [w_peek] | rw [w_arg] | rw [w_frz] | rw [w_intR] | rw [wCall_some] | rw [wLate_n] | rw [wLate_v] | rw [wPeek_n] | rw [wPeek_v] | rw [wArg_n] | rw [wArg_v] | rw [wr_seq] | rw [wr_enum] | rw [wr_rng] | rw [wr_rng2] | rw [wOpen_v] | rw [wOpen_n] | rw [w_open] | rw [wx_for] | rw [w_turn] | rw [we_comp] | rw [w_bodyC] | rw [wp_opt] | rw [wp_bind] | (simp only [wp_ok, wO_some, wI_int, wB_t, wB_f, wF_nx, wF_rt, wF_bk, wF_ct, wV_sh, wV_lst, wL_lst, get_zero, get_succ, set_zero, set_succ, gv_zero, gv_succ, pv_sh, pv_lst, own_sh, own_lst, isV_var, truth_bl, truth_int, c_lt, c_le, c_gt, c_ge, c_eq, c_ne, o_add, o_sub, len_lst, len_tup, Bool.false_and, Bool.true_and, Bool.and_false, Bool.and_true, isV, tk_v, tk_n, tk_0, tk_1, pu_v, pu_n, pu_0, pu_1, Option.map_some, List.length_cons, List.length_nil, List.contains_cons, List.contains_nil, Bool.or_false, Bool.not_false, Bool.not_true, decide_true, decide_false, Nat.zero_add, Nat.reduceAdd, Nat.reduceLT, Nat.reduceBEq, lockCs_n, lockO_n, unlock_n, lockCs_s, lockO_s, unlock_s, slots_v, slots_t, slots_n, slots_c, asg_t, asgs_n, asgs_c, asg_v', List.singleton_append, List.append_nil, List.all_cons, List.all_nil, Option.bind_some, Bool.false_eq_true, if_false, if_true, rho_c, cst10, cst11]))
  refine wp_imp (h10 gr e1) fun v o ⟨⟨x, y, e, hx⟩, eo⟩ => ?_
  subst e eo
  repeat (first | rw [wx_cons] | rw [wx_nil] | rw [wx_ifs] | rw [wx_set] | rw [wx_setT] | rw [w_asgF] | rw [wx_ret] | rw [wx_retN] | rw [wx_app] | rw [wx_setIx] | rw [w_setIxR] | rw [wx_aug] | rw [wx_augIx] | rw [wx_expr] | rw [wx_par2] | rw [wx_par3] | rw [w_setV] | rw [wx_pass] | rw [wx_brk] | rw [wx_cont] | rw [wt_and] | rw [wt_or] | rw [wt_not] | rw [wt_var] | rw [wt_cmp] | rw [wt_chn] | rw [wt_isN] | rw [wt_inn] | rw [wt_call] | rw [wt_bi] | rw [wt_ix] | rw [wt_isi] | rw [we_int] | rw [we_bl] | rw [we_non] | rw [we_str] | rw [we_var] | rw [we_glb] | rw [we_tup] | rw [we_lst] | rw [we_bin] | rw [we_neg] | rw [we_cmp] | rw [we_isN] | rw [we_inn] | rw [we_not] | rw [we_and] | rw [we_or] | rw [we_ite] | rw [we_ix] | rw [we_sl] | rw [we_rev] | rw [we_call] | rw [we_bi] | rw [we_isi] | rw [ws_nil] | rw [ws_cons] | rw [wP_one] | rw [wP_more] | rw [wA_nil] | rw [wA_cons] | rw [wo_no] | rw [wo_yes] | rw [w_late] | rw [w_peek] | rw [w_arg] | rw [w_frz] | rw [w_intR] | rw [wCall_some] | rw [wLate_n] | rw [wLate_v] | rw [wPeek_n] | rw [wPeek_v] | rw [wArg_n] | rw [wArg_v] | rw [wr_seq] | rw [wr_enum] | rw [wr_rng] | rw [wr_rng2] | rw [wOpen_v] | rw [wOpen_n] | rw [w_open] | rw [wx_for] | rw [w_turn] | rw [we_comp] | rw [w_bodyC] | rw [wp_opt] | rw [wp_bind] | (simp only [wp_ok, wO_some, wI_int, wB_t, wB_f, wF_nx, wF_rt, wF_bk, wF_ct, wV_sh, wV_lst, wL_lst, get_zero, get_succ, set_zero, set_succ, gv_zero, gv_succ, pv_sh, pv_lst, own_sh, own_lst, isV_var, truth_bl, truth_int, c_lt, c_le, c_gt, c_ge, c_eq, c_ne, o_add, o_sub, len_lst, len_tup, Bool.false_and, Bool.true_and, Bool.and_false, Bool.and_true, isV, tk_v, tk_n, tk_0, tk_1, pu_v, pu_n, pu_0, pu_1, Option.map_some, List.length_cons, List.length_nil, List.contains_cons, List.contains_nil, Bool.or_false, Bool.not_false, Bool.not_true, decide_true, decide_false, Nat.zero_add, Nat.reduceAdd, Nat.reduceLT, Nat.reduceBEq, lockCs_n, lockO_n, unlock_n, lockCs_s, lockO_s, unlock_s, slots_v, slots_t, slots_n, slots_c, asg_t, asgs_n, asgs_c, asg_v', List.singleton_append, List.append_nil, List.all_cons, List.all_nil, Option.bind_some, Bool.false_eq_true, if_false, if_true, ix_two]))
  refine ⟨?_, rfl⟩
  rw [hx]
  cases k <;> rfl
theorem c_runs (n : Nat) (h w m : Nat) (ts : List Stp) (h1 : 1 ≤ h) (w1 : 1 ≤ w) (hm : h ≤ m) (wm : w ≤ m) (hl : m + ts.length ≤ 900) : Wp (c (n + 3) 12 [.sh (.lst (ts.map Stp.pv)), .sh (.int h), .sh (.int w)]) fun v o => v = .sh (.bl (runD h w ts).isSome) ∧ o = [.emp, .emp, .emp] := by
  obtain ⟨X, hX⟩ := pow40
  have q := runs_gen n (.lst (ts.map Stp.pv)) (.int h) (.int w) X hX (fun g => ∃ gr : List (List PV), g = gr.map PV.tup ∧ gr.length = h ∧ ∀ r, r ∈ gr → r.length = w) (runD h w ts).isNone
    (wp_imp (c_cells (n + 1) h w X (by omega) (by omega)) fun v o ⟨gr, e, e1, e2, eo⟩ => ⟨⟨_, e, gr, rfl, e1, e2⟩, eo⟩)
    (fun g ⟨gr, e, e1, e2⟩ => by
      subst e
      exact c_run n gr h w m (gd_cells h1 w1 (by omega) (by omega) e1 e2) ts hm wm hl)
  have e : (!(runD h w ts).isNone) = (runD h w ts).isSome := by cases runD h w ts <;> rfl
  rw [e] at q
  exact q
end PF.K51
set_option Elab.async false
set_option linter.all false
set_option maxRecDepth 100000
set_option maxHeartbeats 4000000
namespace PF.K51
open PySem PySem.Spec PyProof.Rows PF
def Inv (h w : Nat) (r : Rz) (o : Option (Nat × Nat)) : Prop := 1 - r.c0 ≤ r.n0 ∧ 1 - r.c1 ≤ r.n1 ∧ match o with
  | none => ¬ (r.n0 ≤ (h : Int) ∧ r.n1 ≤ (w : Int))
  | some (a, b) => r.n0 ≤ (h : Int) ∧ r.n1 ≤ (w : Int) ∧ (r.q = false → (a : Int) = h + r.c0 ∧ (b : Int) = w + r.c1) ∧ (r.q = true → (a : Int) = w + r.c1 ∧ (b : Int) = h + r.c0)
theorem inv_step {h w : Nat} {r : Rz} {o : Option (Nat × Nat)} (i : Inv h w r o) (t : Stp) : Inv h w (r.step t) (dstp o t) := by
  obtain ⟨q, n0, n1, c0, c1⟩ := r
  obtain ⟨i1, i2, i3⟩ := i
  cases o with
  | none =>
    cases t with
    | turn => exact ⟨i1, i2, i3⟩
    | mir => exact ⟨i1, i2, i3⟩
    | cut s =>
      cases hv : s.vert <;> cases q <;> simp only [Inv, dstp, Option.bind_none, Rz.step, Rz.hit, hv, mx] at * <;> simp at * <;> (repeat' split) <;> omega
    | add s k =>
      cases hv : s.vert <;> cases q <;> simp only [Inv, dstp, Option.bind_none, Rz.step, Rz.hit, hv, mx] at * <;> simp at * <;> (repeat' split) <;> omega
  | some p =>
    obtain ⟨a, b⟩ := p
    obtain ⟨j1, j2, j3, j4⟩ := i3
    cases t with
    | turn =>
      cases q
      · exact ⟨i1, i2, j1, j2, (fun e => by cases e), fun _ => ⟨(j3 rfl).2, (j3 rfl).1⟩⟩
      · exact ⟨i1, i2, j1, j2, (fun _ => ⟨(j4 rfl).2, (j4 rfl).1⟩), fun e => by cases e⟩
    | mir => exact ⟨i1, i2, j1, j2, j3, j4⟩
    | cut s =>
      cases hv : s.vert <;> cases q <;> simp only [Inv, dstp, Option.bind_some, dst, Rz.step, Rz.hit, hv, mx] at * <;> simp at * <;> (repeat' split) <;> simp_all <;> omega
    | add s k =>
      cases hv : s.vert <;> cases q <;> simp only [Inv, dstp, Option.bind_some, dst, Rz.step, Rz.hit, hv, mx] at * <;> simp at * <;> (repeat' split) <;> omega
def Bnd (i : Nat) (r : Rz) : Prop := 1 ≤ r.n0 ∧ r.n0 ≤ i + 1 ∧ -(i : Int) ≤ r.c0 ∧ 1 ≤ r.n1 ∧ r.n1 ≤ i + 1 ∧ -(i : Int) ≤ r.c1
theorem bnd_step {i : Nat} {r : Rz} (b : Bnd i r) (t : Stp) : Bnd (i + 1) (r.step t) := by
  obtain ⟨q, n0, n1, c0, c1⟩ := r
  unfold Bnd at *
  cases t with
  | turn => simp only [Rz.step] at *; omega
  | mir => simp only [Rz.step] at *; omega
  | cut s => cases hv : s.vert <;> cases q <;> simp only [Rz.step, Rz.hit, hv, mx] at * <;> simp at * <;> (repeat' split) <;> omega
  | add s k => cases hv : s.vert <;> cases q <;> simp only [Rz.step, Rz.hit, hv, mx] at * <;> simp at * <;> (repeat' split) <;> omega
theorem inv_all {h w : Nat} (ts : List Stp) : ∀ (r : Rz) (o : Option (Nat × Nat)), Inv h w r o → Inv h w (ts.foldl Rz.step r) (ts.foldl dstp o) := by
  induction ts with
  | nil => intro r o i; exact i
  | cons t ts ih => intro r o i; exact ih _ _ (inv_step i t)
theorem bnd_all (ts : List Stp) : ∀ (r : Rz) (i : Nat), Bnd i r → Bnd (i + ts.length) (ts.foldl Rz.step r) := by
  induction ts with
  | nil => intro r i b; exact b
  | cons t ts ih =>
    intro r i b
    have q := ih _ (i + 1) (bnd_step b t)
    rw [show i + (t :: ts).length = i + 1 + ts.length by simp; omega]
    exact q
theorem rzs_bnd (ts : List Stp) : Bnd ts.length (rzs ts) := by
  have q := bnd_all ts rz0 0 ⟨by decide, by decide, by decide, by decide, by decide, by decide⟩
  rw [Nat.zero_add] at q
  exact q
theorem runD_iff (h w : Nat) (ts : List Stp) (h1 : 1 ≤ h) (w1 : 1 ≤ w) : (runD h w ts).isSome = decide ((rzs ts).n0 ≤ (h : Int) ∧ (rzs ts).n1 ≤ (w : Int)) := by
  have q : Inv h w (rzs ts) (runD h w ts) := inv_all ts rz0 (some (h, w)) ⟨by decide, by decide, by show (1 : Int) ≤ _; omega, by show (1 : Int) ≤ _; omega, fun _ => ⟨by show _ = (h : Int) + 0; omega, by show _ = (w : Int) + 0; omega⟩, fun e => by cases e⟩
  obtain ⟨_, _, q⟩ := q
  cases e : runD h w ts with
  | none => rw [e] at q; exact (decide_eq_false q).symm
  | some p =>
    rw [e] at q
    exact (decide_eq_true ⟨q.1, q.2.1⟩).symm
end PF.K51
set_option Elab.async false
set_option linter.all false
set_option maxRecDepth 1000000
set_option maxHeartbeats 4000000
namespace PF.K51
open PySem PySem.Spec PyProof.Rows PF
theorem cst5' (n : Nat) : (Γ n).cst 5 = [] := rfl
abbrev lS1 : St := .set (.v 4) (.call 8 (.cons (.var 1) (.cons (.call 6 (.cons (.var 1) (.cons (.int 11) .nil))) (.cons (.call 7 (.cons (.var 1) .nil)) .nil))))
theorem law_s1 (n : Nat) (ns : List Int) (i b d : Int) (h : PoolOk i b d) (sc t lg x4 x5 x6 x7 : OV) : Wp (ex (Γ (n + 2)) [] lS1 [sc, Pool ns i b d, t, lg, x4, x5, x6, x7]) fun f s => f = .nx ∧ ∃ (i b d : Int) (ts : List Stp), s = [sc, Pool ns i b d, t, lg, .sh (.lst (ts.map Stp.pv)), x5, x6, x7] ∧ PoolOk i b d ∧ ts.length ≤ 10 ∧ ∀ t, t ∈ ts → t.ok := by
  have dr := c_draw (n + 1) ns i b d 11 h (by decide) (by decide)
  unfold Pool at dr ⊢
  repeat (first | rw [wx_cons] | rw [wx_nil] | rw [wx_ifs] | rw [wx_set] | rw [wx_setT] | rw [w_asgF] | rw [wx_ret] | rw [wx_retN] | rw [wx_app] | rw [wx_setIx] | rw [w_setIxR] | rw [wx_aug] | rw [wx_augIx] | rw [wx_expr] | rw [wx_par2] | rw [wx_par3] | rw [w_setV] | rw [wx_pass] | rw [wx_brk] | rw [wx_cont] | rw [wt_and] | rw [wt_or] | rw [wt_not] | rw [wt_var] | rw [wt_cmp] | rw [wt_chn] | rw [wt_isN] | rw [wt_inn] | rw [wt_call] | rw [wt_bi] | rw [wt_ix] | rw [wt_isi] | rw [we_int] | rw [we_bl] | rw [we_non] | rw [we_str] | rw [we_var] | rw [we_glb] | rw [we_tup] | rw [we_lst] | rw [we_bin] | rw [we_neg] | rw [we_cmp] | rw [we_isN] | rw [we_inn] | rw [we_not] | rw [we_and] | rw [we_or] | rw [we_ite] | rw [we_ix] | rw [we_sl] | rw [we_rev] | rw [we_call] | rw [we_bi] | rw [we_isi] | rw [ws_nil] | rw [ws_cons] | rw [wP_one] | rw [wP_more] | rw [wA_nil] | rw [wA_cons] | rw [wo_no] | rw [wo_yes] | rw [w_late] | rw [w_peek] | rw [w_arg] | rw [w_frz] | rw [w_intR] | rw [wCall_some] | rw [wLate_n] | rw [wLate_v] | rw [wPeek_n] | rw [wPeek_v] | rw [wArg_n] | rw [wArg_v] | rw [wr_seq] | rw [wr_enum] | rw [wr_rng] | rw [wr_rng2] | rw [wOpen_v] | rw [wOpen_n] | rw [w_open] | rw [wx_for] | rw [w_turn] | rw [we_comp] | rw [w_bodyC] | rw [wp_opt] | rw [wp_bind] | (simp only [wp_ok, wO_some, wI_int, wB_t, wB_f, wF_nx, wF_rt, wF_bk, wF_ct, wV_sh, wV_lst, wL_lst, get_zero, get_succ, set_zero, set_succ, gv_zero, gv_succ, pv_sh, pv_lst, own_sh, own_lst, isV_var, truth_bl, truth_int, c_lt, c_le, c_gt, c_ge, c_eq, c_ne, o_add, o_sub, len_lst, len_tup, Bool.false_and, Bool.true_and, Bool.and_false, Bool.and_true, isV, tk_v, tk_n, tk_0, tk_1, pu_v, pu_n, pu_0, pu_1, Option.map_some, List.length_cons, List.length_nil, List.contains_cons, List.contains_nil, Bool.or_false, Bool.not_false, Bool.not_true, decide_true, decide_false, Nat.zero_add, Nat.reduceAdd, Nat.reduceLT, Nat.reduceBEq, lockCs_n, lockO_n, unlock_n, lockCs_s, lockO_s, unlock_s, slots_v, slots_t, slots_n, slots_c, asg_t, asgs_n, asgs_c, asg_v', List.singleton_append, List.append_nil, List.all_cons, List.all_nil, Option.bind_some, Bool.false_eq_true, if_false, if_true, cst6, cst7, cst8, rho_c]))
  refine wp_imp dr fun v o ⟨i2, b2, d2, cnt, e1, e2, h2, w0, w1⟩ => ?_
  subst e1 e2
  have bs := c_base n ns i2 b2 d2 h2
  unfold Pool at bs ⊢
  repeat (first | rw [wx_cons] | rw [wx_nil] | rw [wx_ifs] | rw [wx_set] | rw [wx_setT] | rw [w_asgF] | rw [wx_ret] | rw [wx_retN] | rw [wx_app] | rw [wx_setIx] | rw [w_setIxR] | rw [wx_aug] | rw [wx_augIx] | rw [wx_expr] | rw [wx_par2] | rw [wx_par3] | rw [w_setV] | rw [wx_pass] | rw [wx_brk] | rw [wx_cont] | rw [wt_and] | rw [wt_or] | rw [wt_not] | rw [wt_var] | rw [wt_cmp] | rw [wt_chn] | rw [wt_isN] | rw [wt_inn] | rw [wt_call] | rw [wt_bi] | rw [wt_ix] | rw [wt_isi] | rw [we_int] | rw [we_bl] | rw [we_non] | rw [we_str] | rw [we_var] | rw [we_glb] | rw [we_tup] | rw [we_lst] | rw [we_bin] | rw [we_neg] | rw [we_cmp] | rw [we_isN] | rw [we_inn] | rw [we_not] | rw [we_and] | rw [we_or] | rw [we_ite] | rw [we_ix] | rw [we_sl] | rw [we_rev] | rw [we_call] | rw [we_bi] | rw [we_isi] | rw [ws_nil] | rw [ws_cons] | rw [wP_one] | rw [wP_more] | rw [wA_nil] | rw [wA_cons] | rw [wo_no] | rw [wo_yes] | rw [w_late] | rw [w_peek] | rw [w_arg] | rw [w_frz] | rw [w_intR] | rw [wCall_some] | rw [wLate_n] | rw [wLate_v] | rw [wPeek_n] | rw [wPeek_v] | rw [wArg_n] | rw [wArg_v] | rw [wr_seq] | rw [wr_enum] | rw [wr_rng] | rw [wr_rng2] | rw [wOpen_v] | rw [wOpen_n] | rw [w_open] | rw [wx_for] | rw [w_turn] | rw [we_comp] | rw [w_bodyC] | rw [wp_opt] | rw [wp_bind] | (simp only [wp_ok, wO_some, wI_int, wB_t, wB_f, wF_nx, wF_rt, wF_bk, wF_ct, wV_sh, wV_lst, wL_lst, get_zero, get_succ, set_zero, set_succ, gv_zero, gv_succ, pv_sh, pv_lst, own_sh, own_lst, isV_var, truth_bl, truth_int, c_lt, c_le, c_gt, c_ge, c_eq, c_ne, o_add, o_sub, len_lst, len_tup, Bool.false_and, Bool.true_and, Bool.and_false, Bool.and_true, isV, tk_v, tk_n, tk_0, tk_1, pu_v, pu_n, pu_0, pu_1, Option.map_some, List.length_cons, List.length_nil, List.contains_cons, List.contains_nil, Bool.or_false, Bool.not_false, Bool.not_true, decide_true, decide_false, Nat.zero_add, Nat.reduceAdd, Nat.reduceLT, Nat.reduceBEq, lockCs_n, lockO_n, unlock_n, lockCs_s, lockO_s, unlock_s, slots_v, slots_t, slots_n, slots_c, asg_t, asgs_n, asgs_c, asg_v', List.singleton_append, List.append_nil, List.all_cons, List.all_nil, Option.bind_some, Bool.false_eq_true, if_false, if_true, cst6, cst7, cst8, rho_c]))
  refine wp_imp bs fun v o ⟨i3, b3, d3, base, e1, e2, h3, r0⟩ => ?_
  subst e1 e2
  have st := c_steps n ns cnt base r0 w0 (by omega) i3 b3 d3 h3
  unfold Pool at st
  repeat (first | rw [wx_cons] | rw [wx_nil] | rw [wx_ifs] | rw [wx_set] | rw [wx_setT] | rw [w_asgF] | rw [wx_ret] | rw [wx_retN] | rw [wx_app] | rw [wx_setIx] | rw [w_setIxR] | rw [wx_aug] | rw [wx_augIx] | rw [wx_expr] | rw [wx_par2] | rw [wx_par3] | rw [w_setV] | rw [wx_pass] | rw [wx_brk] | rw [wx_cont] | rw [wt_and] | rw [wt_or] | rw [wt_not] | rw [wt_var] | rw [wt_cmp] | rw [wt_chn] | rw [wt_isN] | rw [wt_inn] | rw [wt_call] | rw [wt_bi] | rw [wt_ix] | rw [wt_isi] | rw [we_int] | rw [we_bl] | rw [we_non] | rw [we_str] | rw [we_var] | rw [we_glb] | rw [we_tup] | rw [we_lst] | rw [we_bin] | rw [we_neg] | rw [we_cmp] | rw [we_isN] | rw [we_inn] | rw [we_not] | rw [we_and] | rw [we_or] | rw [we_ite] | rw [we_ix] | rw [we_sl] | rw [we_rev] | rw [we_call] | rw [we_bi] | rw [we_isi] | rw [ws_nil] | rw [ws_cons] | rw [wP_one] | rw [wP_more] | rw [wA_nil] | rw [wA_cons] | rw [wo_no] | rw [wo_yes] | rw [w_late] | rw [w_peek] | rw [w_arg] | rw [w_frz] | rw [w_intR] | rw [wCall_some] | rw [wLate_n] | rw [wLate_v] | rw [wPeek_n] | rw [wPeek_v] | rw [wArg_n] | rw [wArg_v] | rw [wr_seq] | rw [wr_enum] | rw [wr_rng] | rw [wr_rng2] | rw [wOpen_v] | rw [wOpen_n] | rw [w_open] | rw [wx_for] | rw [w_turn] | rw [we_comp] | rw [w_bodyC] | rw [wp_opt] | rw [wp_bind] | (simp only [wp_ok, wO_some, wI_int, wB_t, wB_f, wF_nx, wF_rt, wF_bk, wF_ct, wV_sh, wV_lst, wL_lst, get_zero, get_succ, set_zero, set_succ, gv_zero, gv_succ, pv_sh, pv_lst, own_sh, own_lst, isV_var, truth_bl, truth_int, c_lt, c_le, c_gt, c_ge, c_eq, c_ne, o_add, o_sub, len_lst, len_tup, Bool.false_and, Bool.true_and, Bool.and_false, Bool.and_true, isV, tk_v, tk_n, tk_0, tk_1, pu_v, pu_n, pu_0, pu_1, Option.map_some, List.length_cons, List.length_nil, List.contains_cons, List.contains_nil, Bool.or_false, Bool.not_false, Bool.not_true, decide_true, decide_false, Nat.zero_add, Nat.reduceAdd, Nat.reduceLT, Nat.reduceBEq, lockCs_n, lockO_n, unlock_n, lockCs_s, lockO_s, unlock_s, slots_v, slots_t, slots_n, slots_c, asg_t, asgs_n, asgs_c, asg_v', List.singleton_append, List.append_nil, List.all_cons, List.all_nil, Option.bind_some, Bool.false_eq_true, if_false, if_true, cst6, cst7, cst8, rho_c]))
  refine wp_imp st fun v o ⟨i4, b4, d4, ts, e1, e2, h4, hl, hok⟩ => ?_
  subst e1 e2
  repeat (first | rw [wx_cons] | rw [wx_nil] | rw [wx_ifs] | rw [wx_set] | rw [wx_setT] | rw [w_asgF] | rw [wx_ret] | rw [wx_retN] | rw [wx_app] | rw [wx_setIx] | rw [w_setIxR] | rw [wx_aug] | rw [wx_augIx] | rw [wx_expr] | rw [wx_par2] | rw [wx_par3] | rw [w_setV] | rw [wx_pass] | rw [wx_brk] | rw [wx_cont] | rw [wt_and] | rw [wt_or] | rw [wt_not] | rw [wt_var] | rw [wt_cmp] | rw [wt_chn] | rw [wt_isN] | rw [wt_inn] | rw [wt_call] | rw [wt_bi] | rw [wt_ix] | rw [wt_isi] | rw [we_int] | rw [we_bl] | rw [we_non] | rw [we_str] | rw [we_var] | rw [we_glb] | rw [we_tup] | rw [we_lst] | rw [we_bin] | rw [we_neg] | rw [we_cmp] | rw [we_isN] | rw [we_inn] | rw [we_not] | rw [we_and] | rw [we_or] | rw [we_ite] | rw [we_ix] | rw [we_sl] | rw [we_rev] | rw [we_call] | rw [we_bi] | rw [we_isi] | rw [ws_nil] | rw [ws_cons] | rw [wP_one] | rw [wP_more] | rw [wA_nil] | rw [wA_cons] | rw [wo_no] | rw [wo_yes] | rw [w_late] | rw [w_peek] | rw [w_arg] | rw [w_frz] | rw [w_intR] | rw [wCall_some] | rw [wLate_n] | rw [wLate_v] | rw [wPeek_n] | rw [wPeek_v] | rw [wArg_n] | rw [wArg_v] | rw [wr_seq] | rw [wr_enum] | rw [wr_rng] | rw [wr_rng2] | rw [wOpen_v] | rw [wOpen_n] | rw [w_open] | rw [wx_for] | rw [w_turn] | rw [we_comp] | rw [w_bodyC] | rw [wp_opt] | rw [wp_bind] | (simp only [wp_ok, wO_some, wI_int, wB_t, wB_f, wF_nx, wF_rt, wF_bk, wF_ct, wV_sh, wV_lst, wL_lst, get_zero, get_succ, set_zero, set_succ, gv_zero, gv_succ, pv_sh, pv_lst, own_sh, own_lst, isV_var, truth_bl, truth_int, c_lt, c_le, c_gt, c_ge, c_eq, c_ne, o_add, o_sub, len_lst, len_tup, Bool.false_and, Bool.true_and, Bool.and_false, Bool.and_true, isV, tk_v, tk_n, tk_0, tk_1, pu_v, pu_n, pu_0, pu_1, Option.map_some, List.length_cons, List.length_nil, List.contains_cons, List.contains_nil, Bool.or_false, Bool.not_false, Bool.not_true, decide_true, decide_false, Nat.zero_add, Nat.reduceAdd, Nat.reduceLT, Nat.reduceBEq, lockCs_n, lockO_n, unlock_n, lockCs_s, lockO_s, unlock_s, slots_v, slots_t, slots_n, slots_c, asg_t, asgs_n, asgs_c, asg_v', List.singleton_append, List.append_nil, List.all_cons, List.all_nil, Option.bind_some, Bool.false_eq_true, if_false, if_true]))
  exact ⟨trivial, i4, b4, d4, ts, rfl, h4, by omega, hok⟩
end PF.K51
set_option Elab.async false
set_option linter.all false
set_option maxRecDepth 1000000
set_option maxHeartbeats 4000000
namespace PF.K51
open PySem PySem.Spec PyProof.Rows PF
/-- what the law asks of a row of steps -/
structure Sz (n : Nat) (L : List PV) (a b : Int) : Prop where
  s1 : c (n + 6) 5 [.sh (.lst L)] = .ok (.sh (.tup [.int a, .int b])) [.emp]
  s2 : c (n + 6) 5 [.sh (.tup L)] = .ok (.sh (.tup [.int a, .int b])) [.emp]
  a1 : 1 ≤ a
  a2 : a ≤ (L.length : Int) + 1
  b1 : 1 ≤ b
  b2 : b ≤ (L.length : Int) + 1
  ll : L.length ≤ 10
  rn : ∀ x y : Int, 1 ≤ x → 1 ≤ y → x ≤ 20 → y ≤ 20 → c (n + 6) 12 [.sh (.lst L), .sh (.int x), .sh (.int y)] = .ok (.sh (.bl (decide (a ≤ x ∧ b ≤ y)))) [.emp, .emp, .emp]
theorem sz_of (n : Nat) (ts : List Stp) (hok : ∀ t, t ∈ ts → t.ok) (hl : ts.length ≤ 10) : Sz n (ts.map Stp.pv) (rzs ts).n0 (rzs ts).n1 := by
  obtain ⟨p1, p2, _, p4, p5, _⟩ := rzs_bnd ts
  refine ⟨c_size n ts hok (by omega) _ (.inl rfl), c_size n ts hok (by omega) _ (.inr rfl), p1, ?_, p4, ?_, ?_, fun x y hx hy hx2 hy2 => ?_⟩
  · rw [List.length_map]; exact p2
  · rw [List.length_map]; exact p5
  · rw [List.length_map]; exact hl
  · obtain ⟨h, rfl⟩ := Int.eq_ofNat_of_zero_le (show 0 ≤ x by omega)
    obtain ⟨w, rfl⟩ := Int.eq_ofNat_of_zero_le (show 0 ≤ y by omega)
    have q := c_runs (n + 3) h w 20 ts (by omega) (by omega) (by omega) (by omega) (by omega)
    rw [runD_iff h w ts (by omega) (by omega)] at q
    exact wp_eq q
end PF.K51
set_option Elab.async false
set_option linter.all false
set_option maxRecDepth 1000000
set_option maxHeartbeats 4000000
namespace PF.K51
open PySem PySem.Spec PyProof.Rows PF
abbrev lS2 : St := .set (.v 5) (.call 5 (.cons (.var 4) .nil))
theorem law_s2 (n : Nat) (L : List PV) (a b : Int) (z : Sz n L a b) (sc pl t lg x5 x6 x7 : OV) : Wp (ex (Γ (n + 6)) [] lS2 [sc, pl, t, lg, .sh (.lst L), x5, x6, x7]) fun f s => f = .nx ∧ s = [sc, pl, t, lg, .sh (.lst L), .sh (.tup [.int a, .int b]), x6, x7] := by
  have s1 := z.s1
  repeat (first | rw [wx_cons] | rw [wx_nil] | rw [wx_ifs] | rw [wx_set] | rw [wx_setT] | rw [w_asgF] | rw [wx_ret] | rw [wx_retN] | rw [wx_app] | rw [wx_setIx] | rw [w_setIxR] | rw [wx_aug] | rw [wx_augIx] | rw [wx_expr] | rw [wx_par2] | rw [wx_par3] | rw [w_setV] | rw [wx_pass] | rw [wx_brk] | rw [wx_cont] | rw [wt_and] | rw [wt_or] | rw [wt_not] | rw [wt_var] | rw [wt_cmp] | rw [wt_chn] | rw [wt_isN] | rw [wt_inn] | rw [wt_call] | rw [wt_bi] | rw [wt_ix] | rw [wt_isi] | rw [we_int] | rw [we_bl] | rw [we_non] | rw [we_str] | rw [we_var] | rw [we_glb] | rw [we_tup] | rw [we_lst] | rw [we_bin] | rw [we_neg] | rw [we_cmp] | rw [we_isN] | rw [we_inn] | rw [we_not] | rw [we_and] | rw [we_or] | rw [we_ite] | rw [we_ix] | rw [we_sl] | rw [we_rev] | rw [we_call] | rw [we_bi] | rw [we_isi] | rw [ws_nil] | rw [ws_cons] | rw [wP_one] | rw [wP_more] | rw [wA_nil] | rw [wA_cons] | rw [wo_no] | rw [wo_yes] | rw [w_late] | rw [w_peek] | rw [w_arg] | rw [w_frz] | rw [w_intR] | rw [wCall_some] | rw [wLate_n] | rw [wLate_v] | rw [wPeek_n] | rw [wPeek_v] | rw [wArg_n] | rw [wArg_v] | rw [wr_seq] | rw [wr_enum] | rw [wr_rng] | rw [wr_rng2] | rw [wOpen_v] | rw [wOpen_n] | rw [w_open] | rw [wx_for] | rw [w_turn] | rw [we_comp] | rw [w_bodyC] | rw [wp_opt] | rw [wp_bind] | (simp only [wp_ok, wO_some, wI_int, wB_t, wB_f, wF_nx, wF_rt, wF_bk, wF_ct, wV_sh, wV_lst, wL_lst, get_zero, get_succ, set_zero, set_succ, gv_zero, gv_succ, pv_sh, pv_lst, own_sh, own_lst, isV_var, truth_bl, truth_int, c_lt, c_le, c_gt, c_ge, c_eq, c_ne, o_add, o_sub, len_lst, len_tup, Bool.false_and, Bool.true_and, Bool.and_false, Bool.and_true, isV, tk_v, tk_n, tk_0, tk_1, pu_v, pu_n, pu_0, pu_1, Option.map_some, List.length_cons, List.length_nil, List.contains_cons, List.contains_nil, Bool.or_false, Bool.not_false, Bool.not_true, decide_true, decide_false, Nat.zero_add, Nat.reduceAdd, Nat.reduceLT, Nat.reduceBEq, lockCs_n, lockO_n, unlock_n, lockCs_s, lockO_s, unlock_s, slots_v, slots_t, slots_n, slots_c, asg_t, asgs_n, asgs_c, asg_v', List.singleton_append, List.append_nil, List.all_cons, List.all_nil, Option.bind_some, Bool.false_eq_true, if_false, if_true, rho_c, cst5, s1]))
  exact ⟨trivial, trivial⟩
theorem peq2 (a b a' b' : Int) : peq (.tup [.int a, .int b]) (.tup [.int a', .int b']) = (a == a' && b == b') := by
  simp only [peq, peqs, Bool.and_true]
theorem ne2 (a b : Int) : cmpop .ne (.tup [.int a, .int b]) (.tup [.int a, .int b]) = some false := by
  show (if eqOk 16 (.tup [.int a, .int b]) && eqOk 16 (.tup [.int a, .int b]) then some (!peq (.tup [.int a, .int b]) (.tup [.int a, .int b])) else none) = _
  rw [peq2, show eqOk 16 (.tup [.int a, .int b]) = true from rfl]
  simp
theorem tuple_l (L : List PV) : bi .tuple [.lst L] = some (.sh (.tup L)) := rfl
theorem isi_t (a b : Int) : ([Ty.tuple].any fun t => isTy t (.tup [.int a, .int b])) = true := rfl
theorem ne22 : (!((2 : Int) == 2)) = false := rfl
theorem len2 (a b : Int) : bi .len [.tup [.int a, .int b]] = some (.sh (.int 2)) := rfl
abbrev lS3 : St := .ifs (.or (.not (.isi (.var 5) [.tuple] false)) (.or (.cmp .ne (.bi .len (.cons (.var 5) .nil)) (.int 2)) (.cmp .ne (.call 5 (.cons (.bi .tuple (.cons (.var 4) .nil)) .nil)) (.var 5)))) (.cons (.ret (.bl false)) .nil) .nil
theorem law_s3 (n : Nat) (L : List PV) (a b : Int) (z : Sz n L a b) (sc pl t lg x6 x7 : OV) : Wp (ex (Γ (n + 6)) [] lS3 [sc, pl, t, lg, .sh (.lst L), .sh (.tup [.int a, .int b]), x6, x7]) fun f s => f = .nx ∧ s = [sc, pl, t, lg, .sh (.lst L), .sh (.tup [.int a, .int b]), x6, x7] := by
  have s2 := z.s2
  repeat (first | rw [wx_cons] | rw [wx_nil] | rw [wx_ifs] | rw [wx_set] | rw [wx_setT] | rw [w_asgF] | rw [wx_ret] | rw [wx_retN] | rw [wx_app] | rw [wx_setIx] | rw [w_setIxR] | rw [wx_aug] | rw [wx_augIx] | rw [wx_expr] | rw [wx_par2] | rw [wx_par3] | rw [w_setV] | rw [wx_pass] | rw [wx_brk] | rw [wx_cont] | rw [wt_and] | rw [wt_or] | rw [wt_not] | rw [wt_var] | rw [wt_cmp] | rw [wt_chn] | rw [wt_isN] | rw [wt_inn] | rw [wt_call] | rw [wt_bi] | rw [wt_ix] | rw [wt_isi] | rw [we_int] | rw [we_bl] | rw [we_non] | rw [we_str] | rw [we_var] | rw [we_glb] | rw [we_tup] | rw [we_lst] | rw [we_bin] | rw [we_neg] | rw [we_cmp] | rw [we_isN] | rw [we_inn] | rw [we_not] | rw [we_and] | rw [we_or] | rw [we_ite] | rw [we_ix] | rw [we_sl] | rw [we_rev] | rw [we_call] | rw [we_bi] | rw [we_isi] | rw [ws_nil] | rw [ws_cons] | rw [wP_one] | rw [wP_more] | rw [wA_nil] | rw [wA_cons] | rw [wo_no] | rw [wo_yes] | rw [w_late] | rw [w_peek] | rw [w_arg] | rw [w_frz] | rw [w_intR] | rw [wCall_some] | rw [wLate_n] | rw [wLate_v] | rw [wPeek_n] | rw [wPeek_v] | rw [wArg_n] | rw [wArg_v] | rw [wr_seq] | rw [wr_enum] | rw [wr_rng] | rw [wr_rng2] | rw [wOpen_v] | rw [wOpen_n] | rw [w_open] | rw [wx_for] | rw [w_turn] | rw [we_comp] | rw [w_bodyC] | rw [wp_opt] | rw [wp_bind] | (simp only [wp_ok, wO_some, wI_int, wB_t, wB_f, wF_nx, wF_rt, wF_bk, wF_ct, wV_sh, wV_lst, wL_lst, get_zero, get_succ, set_zero, set_succ, gv_zero, gv_succ, pv_sh, pv_lst, own_sh, own_lst, isV_var, truth_bl, truth_int, c_lt, c_le, c_gt, c_ge, c_eq, c_ne, o_add, o_sub, len_lst, len_tup, Bool.false_and, Bool.true_and, Bool.and_false, Bool.and_true, isV, tk_v, tk_n, tk_0, tk_1, pu_v, pu_n, pu_0, pu_1, Option.map_some, List.length_cons, List.length_nil, List.contains_cons, List.contains_nil, Bool.or_false, Bool.not_false, Bool.not_true, decide_true, decide_false, Nat.zero_add, Nat.reduceAdd, Nat.reduceLT, Nat.reduceBEq, lockCs_n, lockO_n, unlock_n, lockCs_s, lockO_s, unlock_s, slots_v, slots_t, slots_n, slots_c, asg_t, asgs_n, asgs_c, asg_v', List.singleton_append, List.append_nil, List.all_cons, List.all_nil, Option.bind_some, Bool.false_eq_true, if_false, if_true, rho_c, cst5, s2, ne2, tuple_l, isi_t, len2, ne22]))
  exact ⟨trivial, trivial⟩
abbrev lS4 : St := .set (.t (.cons (.v 6) (.cons (.v 7) .nil))) (.var 5)
theorem law_s4 (n : Nat) (L : List PV) (a b : Int) (sc pl t lg x6 x7 : OV) : Wp (ex (Γ (n + 6)) [] lS4 [sc, pl, t, lg, .sh (.lst L), .sh (.tup [.int a, .int b]), x6, x7]) fun f s => f = .nx ∧ s = [sc, pl, t, lg, .sh (.lst L), .sh (.tup [.int a, .int b]), .sh (.int a), .sh (.int b)] := by
  repeat (first | rw [wx_cons] | rw [wx_nil] | rw [wx_ifs] | rw [wx_set] | rw [wx_setT] | rw [w_asgF] | rw [wx_ret] | rw [wx_retN] | rw [wx_app] | rw [wx_setIx] | rw [w_setIxR] | rw [wx_aug] | rw [wx_augIx] | rw [wx_expr] | rw [wx_par2] | rw [wx_par3] | rw [w_setV] | rw [wx_pass] | rw [wx_brk] | rw [wx_cont] | rw [wt_and] | rw [wt_or] | rw [wt_not] | rw [wt_var] | rw [wt_cmp] | rw [wt_chn] | rw [wt_isN] | rw [wt_inn] | rw [wt_call] | rw [wt_bi] | rw [wt_ix] | rw [wt_isi] | rw [we_int] | rw [we_bl] | rw [we_non] | rw [we_str] | rw [we_var] | rw [we_glb] | rw [we_tup] | rw [we_lst] | rw [we_bin] | rw [we_neg] | rw [we_cmp] | rw [we_isN] | rw [we_inn] | rw [we_not] | rw [we_and] | rw [we_or] | rw [we_ite] | rw [we_ix] | rw [we_sl] | rw [we_rev] | rw [we_call] | rw [we_bi] | rw [we_isi] | rw [ws_nil] | rw [ws_cons] | rw [wP_one] | rw [wP_more] | rw [wA_nil] | rw [wA_cons] | rw [wo_no] | rw [wo_yes] | rw [w_late] | rw [w_peek] | rw [w_arg] | rw [w_frz] | rw [w_intR] | rw [wCall_some] | rw [wLate_n] | rw [wLate_v] | rw [wPeek_n] | rw [wPeek_v] | rw [wArg_n] | rw [wArg_v] | rw [wr_seq] | rw [wr_enum] | rw [wr_rng] | rw [wr_rng2] | rw [wOpen_v] | rw [wOpen_n] | rw [w_open] | rw [wx_for] | rw [w_turn] | rw [we_comp] | rw [w_bodyC] | rw [wp_opt] | rw [wp_bind] | (simp only [wp_ok, wO_some, wI_int, wB_t, wB_f, wF_nx, wF_rt, wF_bk, wF_ct, wV_sh, wV_lst, wL_lst, get_zero, get_succ, set_zero, set_succ, gv_zero, gv_succ, pv_sh, pv_lst, own_sh, own_lst, isV_var, truth_bl, truth_int, c_lt, c_le, c_gt, c_ge, c_eq, c_ne, o_add, o_sub, len_lst, len_tup, Bool.false_and, Bool.true_and, Bool.and_false, Bool.and_true, isV, tk_v, tk_n, tk_0, tk_1, pu_v, pu_n, pu_0, pu_1, Option.map_some, List.length_cons, List.length_nil, List.contains_cons, List.contains_nil, Bool.or_false, Bool.not_false, Bool.not_true, decide_true, decide_false, Nat.zero_add, Nat.reduceAdd, Nat.reduceLT, Nat.reduceBEq, lockCs_n, lockO_n, unlock_n, lockCs_s, lockO_s, unlock_s, slots_v, slots_t, slots_n, slots_c, asg_t, asgs_n, asgs_c, asg_v', List.singleton_append, List.append_nil, List.all_cons, List.all_nil, Option.bind_some, Bool.false_eq_true, if_false, if_true]))
  exact ⟨trivial, trivial⟩
end PF.K51
set_option Elab.async false
set_option linter.all false
set_option maxRecDepth 1000000
set_option maxHeartbeats 4000000
namespace PF.K51
open PySem PySem.Spec PyProof.Rows PF
abbrev lS5 : St := .ifs (.or (.not (.chn .le .le (.int 1) (.var 6) (.bin .add (.bi .len (.cons (.var 4) .nil)) (.int 1)))) (.not (.chn .le .le (.int 1) (.var 7) (.bin .add (.bi .len (.cons (.var 4) .nil)) (.int 1))))) (.cons (.ret (.bl false)) .nil) .nil
theorem law_s5 (n : Nat) (L : List PV) (a b : Int) (z : Sz n L a b) (sc pl t lg x5 : OV) : Wp (ex (Γ (n + 6)) [] lS5 [sc, pl, t, lg, .sh (.lst L), x5, .sh (.int a), .sh (.int b)]) fun f s => f = .nx ∧ s = [sc, pl, t, lg, .sh (.lst L), x5, .sh (.int a), .sh (.int b)] := by
  have d1 : decide (1 ≤ a) = true := decide_eq_true z.a1
  have d2 : decide (a ≤ (L.length : Int) + 1) = true := decide_eq_true z.a2
  have d3 : decide (1 ≤ b) = true := decide_eq_true z.b1
  have d4 : decide (b ≤ (L.length : Int) + 1) = true := decide_eq_true z.b2
  repeat (first | rw [wx_cons] | rw [wx_nil] | rw [wx_ifs] | rw [wx_set] | rw [wx_setT] | rw [w_asgF] | rw [wx_ret] | rw [wx_retN] | rw [wx_app] | rw [wx_setIx] | rw [w_setIxR] | rw [wx_aug] | rw [wx_augIx] | rw [wx_expr] | rw [wx_par2] | rw [wx_par3] | rw [w_setV] | rw [wx_pass] | rw [wx_brk] | rw [wx_cont] | rw [wt_and] | rw [wt_or] | rw [wt_not] | rw [wt_var] | rw [wt_cmp] | rw [wt_chn] | rw [wt_isN] | rw [wt_inn] | rw [wt_call] | rw [wt_bi] | rw [wt_ix] | rw [wt_isi] | rw [we_int] | rw [we_bl] | rw [we_non] | rw [we_str] | rw [we_var] | rw [we_glb] | rw [we_tup] | rw [we_lst] | rw [we_bin] | rw [we_neg] | rw [we_cmp] | rw [we_isN] | rw [we_inn] | rw [we_not] | rw [we_and] | rw [we_or] | rw [we_ite] | rw [we_ix] | rw [we_sl] | rw [we_rev] | rw [we_call] | rw [we_bi] | rw [we_isi] | rw [ws_nil] | rw [ws_cons] | rw [wP_one] | rw [wP_more] | rw [wA_nil] | rw [wA_cons] | rw [wo_no] | rw [wo_yes] | rw [w_late] | rw [w_peek] | rw [w_arg] | rw [w_frz] | rw [w_intR] | rw [wCall_some] | rw [wLate_n] | rw [wLate_v] | rw [wPeek_n] | rw [wPeek_v] | rw [wArg_n] | rw [wArg_v] | rw [wr_seq] | rw [wr_enum] | rw [wr_rng] | rw [wr_rng2] | rw [wOpen_v] | rw [wOpen_n] | rw [w_open] | rw [wx_for] | rw [w_turn] | rw [we_comp] | rw [w_bodyC] | rw [wp_opt] | rw [wp_bind] | (simp only [wp_ok, wO_some, wI_int, wB_t, wB_f, wF_nx, wF_rt, wF_bk, wF_ct, wV_sh, wV_lst, wL_lst, get_zero, get_succ, set_zero, set_succ, gv_zero, gv_succ, pv_sh, pv_lst, own_sh, own_lst, isV_var, truth_bl, truth_int, c_lt, c_le, c_gt, c_ge, c_eq, c_ne, o_add, o_sub, len_lst, len_tup, Bool.false_and, Bool.true_and, Bool.and_false, Bool.and_true, isV, tk_v, tk_n, tk_0, tk_1, pu_v, pu_n, pu_0, pu_1, Option.map_some, List.length_cons, List.length_nil, List.contains_cons, List.contains_nil, Bool.or_false, Bool.not_false, Bool.not_true, decide_true, decide_false, Nat.zero_add, Nat.reduceAdd, Nat.reduceLT, Nat.reduceBEq, lockCs_n, lockO_n, unlock_n, lockCs_s, lockO_s, unlock_s, slots_v, slots_t, slots_n, slots_c, asg_t, asgs_n, asgs_c, asg_v', List.singleton_append, List.append_nil, List.all_cons, List.all_nil, Option.bind_some, Bool.false_eq_true, if_false, if_true, d1, d2, d3, d4]))
  exact ⟨trivial, trivial⟩
abbrev lS7 : St := .ifs (.and (.cmp .gt (.var 6) (.int 1)) (.call 12 (.cons (.var 4) (.cons (.bin .sub (.var 6) (.int 1)) (.cons (.bin .add (.var 7) (.int 3)) .nil))))) (.cons (.ret (.bl false)) .nil) .nil
theorem law_s7 (n : Nat) (L : List PV) (a b : Int) (z : Sz n L a b) (sc pl t lg x5 : OV) : Wp (ex (Γ (n + 6)) [] lS7 [sc, pl, t, lg, .sh (.lst L), x5, .sh (.int a), .sh (.int b)]) fun f s => f = .nx ∧ s = [sc, pl, t, lg, .sh (.lst L), x5, .sh (.int a), .sh (.int b)] := by
  have z1 := z.a1; have z2 := z.a2; have z3 := z.b1; have z4 := z.b2; have z5 := z.ll
  by_cases h : 1 < a
  · have d1 : decide (1 < a) = true := decide_eq_true h
    have r := z.rn (a - 1) (b + 3) (by omega) (by omega) (by omega) (by omega)
    have r2 : decide (a ≤ a - 1 ∧ b ≤ b + 3) = false := decide_eq_false (by omega)
    rw [r2] at r
    repeat (first | rw [wx_cons] | rw [wx_nil] | rw [wx_ifs] | rw [wx_set] | rw [wx_setT] | rw [w_asgF] | rw [wx_ret] | rw [wx_retN] | rw [wx_app] | rw [wx_setIx] | rw [w_setIxR] | rw [wx_aug] | rw [wx_augIx] | rw [wx_expr] | rw [wx_par2] | rw [wx_par3] | rw [w_setV] | rw [wx_pass] | rw [wx_brk] | rw [wx_cont] | rw [wt_and] | rw [wt_or] | rw [wt_not] | rw [wt_var] | rw [wt_cmp] | rw [wt_chn] | rw [wt_isN] | rw [wt_inn] | rw [wt_call] | rw [wt_bi] | rw [wt_ix] | rw [wt_isi] | rw [we_int] | rw [we_bl] | rw [we_non] | rw [we_str] | rw [we_var] | rw [we_glb] | rw [we_tup] | rw [we_lst] | rw [we_bin] | rw [we_neg] | rw [we_cmp] | rw [we_isN] | rw [we_inn] | rw [we_not] | rw [we_and] | rw [we_or] | rw [we_ite] | rw [we_ix] | rw [we_sl] | rw [we_rev] | rw [we_call] | rw [we_bi] | rw [we_isi] | rw [ws_nil] | rw [ws_cons] | rw [wP_one] | rw [wP_more] | rw [wA_nil] | rw [wA_cons] | rw [wo_no] | rw [wo_yes] | rw [w_late] | rw [w_peek] | rw [w_arg] | rw [w_frz] | rw [w_intR] | rw [wCall_some] | rw [wLate_n] | rw [wLate_v] | rw [wPeek_n] | rw [wPeek_v] | rw [wArg_n] | rw [wArg_v] | rw [wr_seq] | rw [wr_enum] | rw [wr_rng] | rw [wr_rng2] | rw [wOpen_v] | rw [wOpen_n] | rw [w_open] | rw [wx_for] | rw [w_turn] | rw [we_comp] | rw [w_bodyC] | rw [wp_opt] | rw [wp_bind] | (simp only [wp_ok, wO_some, wI_int, wB_t, wB_f, wF_nx, wF_rt, wF_bk, wF_ct, wV_sh, wV_lst, wL_lst, get_zero, get_succ, set_zero, set_succ, gv_zero, gv_succ, pv_sh, pv_lst, own_sh, own_lst, isV_var, truth_bl, truth_int, c_lt, c_le, c_gt, c_ge, c_eq, c_ne, o_add, o_sub, len_lst, len_tup, Bool.false_and, Bool.true_and, Bool.and_false, Bool.and_true, isV, tk_v, tk_n, tk_0, tk_1, pu_v, pu_n, pu_0, pu_1, Option.map_some, List.length_cons, List.length_nil, List.contains_cons, List.contains_nil, Bool.or_false, Bool.not_false, Bool.not_true, decide_true, decide_false, Nat.zero_add, Nat.reduceAdd, Nat.reduceLT, Nat.reduceBEq, lockCs_n, lockO_n, unlock_n, lockCs_s, lockO_s, unlock_s, slots_v, slots_t, slots_n, slots_c, asg_t, asgs_n, asgs_c, asg_v', List.singleton_append, List.append_nil, List.all_cons, List.all_nil, Option.bind_some, Bool.false_eq_true, if_false, if_true, rho_c, cst12, d1, r]))
    exact ⟨trivial, trivial⟩
  · have d1 : decide (1 < a) = false := decide_eq_false h
    repeat (first | rw [wx_cons] | rw [wx_nil] | rw [wx_ifs] | rw [wx_set] | rw [wx_setT] | rw [w_asgF] | rw [wx_ret] | rw [wx_retN] | rw [wx_app] | rw [wx_setIx] | rw [w_setIxR] | rw [wx_aug] | rw [wx_augIx] | rw [wx_expr] | rw [wx_par2] | rw [wx_par3] | rw [w_setV] | rw [wx_pass] | rw [wx_brk] | rw [wx_cont] | rw [wt_and] | rw [wt_or] | rw [wt_not] | rw [wt_var] | rw [wt_cmp] | rw [wt_chn] | rw [wt_isN] | rw [wt_inn] | rw [wt_call] | rw [wt_bi] | rw [wt_ix] | rw [wt_isi] | rw [we_int] | rw [we_bl] | rw [we_non] | rw [we_str] | rw [we_var] | rw [we_glb] | rw [we_tup] | rw [we_lst] | rw [we_bin] | rw [we_neg] | rw [we_cmp] | rw [we_isN] | rw [we_inn] | rw [we_not] | rw [we_and] | rw [we_or] | rw [we_ite] | rw [we_ix] | rw [we_sl] | rw [we_rev] | rw [we_call] | rw [we_bi] | rw [we_isi] | rw [ws_nil] | rw [ws_cons] | rw [wP_one] | rw [wP_more] | rw [wA_nil] | rw [wA_cons] | rw [wo_no] | rw [wo_yes] | rw [w_late] | rw [w_peek] | rw [w_arg] | rw [w_frz] | rw [w_intR] | rw [wCall_some] | rw [wLate_n] | rw [wLate_v] | rw [wPeek_n] | rw [wPeek_v] | rw [wArg_n] | rw [wArg_v] | rw [wr_seq] | rw [wr_enum] | rw [wr_rng] | rw [wr_rng2] | rw [wOpen_v] | rw [wOpen_n] | rw [w_open] | rw [wx_for] | rw [w_turn] | rw [we_comp] | rw [w_bodyC] | rw [wp_opt] | rw [wp_bind] | (simp only [wp_ok, wO_some, wI_int, wB_t, wB_f, wF_nx, wF_rt, wF_bk, wF_ct, wV_sh, wV_lst, wL_lst, get_zero, get_succ, set_zero, set_succ, gv_zero, gv_succ, pv_sh, pv_lst, own_sh, own_lst, isV_var, truth_bl, truth_int, c_lt, c_le, c_gt, c_ge, c_eq, c_ne, o_add, o_sub, len_lst, len_tup, Bool.false_and, Bool.true_and, Bool.and_false, Bool.and_true, isV, tk_v, tk_n, tk_0, tk_1, pu_v, pu_n, pu_0, pu_1, Option.map_some, List.length_cons, List.length_nil, List.contains_cons, List.contains_nil, Bool.or_false, Bool.not_false, Bool.not_true, decide_true, decide_false, Nat.zero_add, Nat.reduceAdd, Nat.reduceLT, Nat.reduceBEq, lockCs_n, lockO_n, unlock_n, lockCs_s, lockO_s, unlock_s, slots_v, slots_t, slots_n, slots_c, asg_t, asgs_n, asgs_c, asg_v', List.singleton_append, List.append_nil, List.all_cons, List.all_nil, Option.bind_some, Bool.false_eq_true, if_false, if_true, d1]))
    exact ⟨trivial, trivial⟩
abbrev lS8 : St := .ifs (.and (.cmp .gt (.var 7) (.int 1)) (.call 12 (.cons (.var 4) (.cons (.bin .add (.var 6) (.int 3)) (.cons (.bin .sub (.var 7) (.int 1)) .nil))))) (.cons (.ret (.bl false)) .nil) .nil
theorem law_s8 (n : Nat) (L : List PV) (a b : Int) (z : Sz n L a b) (sc pl t lg x5 : OV) : Wp (ex (Γ (n + 6)) [] lS8 [sc, pl, t, lg, .sh (.lst L), x5, .sh (.int a), .sh (.int b)]) fun f s => f = .nx ∧ s = [sc, pl, t, lg, .sh (.lst L), x5, .sh (.int a), .sh (.int b)] := by
  have z1 := z.a1; have z2 := z.a2; have z3 := z.b1; have z4 := z.b2; have z5 := z.ll
  by_cases h : 1 < b
  · have d1 : decide (1 < b) = true := decide_eq_true h
    have r := z.rn (a + 3) (b - 1) (by omega) (by omega) (by omega) (by omega)
    have r2 : decide (a ≤ a + 3 ∧ b ≤ b - 1) = false := decide_eq_false (by omega)
    rw [r2] at r
    repeat (first | rw [wx_cons] | rw [wx_nil] | rw [wx_ifs] | rw [wx_set] | rw [wx_setT] | rw [w_asgF] | rw [wx_ret] | rw [wx_retN] | rw [wx_app] | rw [wx_setIx] | rw [w_setIxR] | rw [wx_aug] | rw [wx_augIx] | rw [wx_expr] | rw [wx_par2] | rw [wx_par3] | rw [w_setV] | rw [wx_pass] | rw [wx_brk] | rw [wx_cont] | rw [wt_and] | rw [wt_or] | rw [wt_not] | rw [wt_var] | rw [wt_cmp] | rw [wt_chn] | rw [wt_isN] | rw [wt_inn] | rw [wt_call] | rw [wt_bi] | rw [wt_ix] | rw [wt_isi] | rw [we_int] | rw [we_bl] | rw [we_non] | rw [we_str] | rw [we_var] | rw [we_glb] | rw [we_tup] | rw [we_lst] | rw [we_bin] | rw [we_neg] | rw [we_cmp] | rw [we_isN] | rw [we_inn] | rw [we_not] | rw [we_and] | rw [we_or] | rw [we_ite] | rw [we_ix] | rw [we_sl] | rw [we_rev] | rw [we_call] | rw [we_bi] | rw [we_isi] | rw [ws_nil] | rw [ws_cons] | rw [wP_one] | rw [wP_more] | rw [wA_nil] | rw [wA_cons] | rw [wo_no] | rw [wo_yes] | rw [w_late] | rw [w_peek] | rw [w_arg] | rw [w_frz] | rw [w_intR] | rw [wCall_some] | rw [wLate_n] | rw [wLate_v] | rw [wPeek_n] | rw [wPeek_v] | rw [wArg_n] | rw [wArg_v] | rw [wr_seq] | rw [wr_enum] | rw [wr_rng] | rw [wr_rng2] | rw [wOpen_v] | rw [wOpen_n] | rw [w_open] | rw [wx_for] | rw [w_turn] | rw [we_comp] | rw [w_bodyC] | rw [wp_opt] | rw [wp_bind] | (simp only [wp_ok, wO_some, wI_int, wB_t, wB_f, wF_nx, wF_rt, wF_bk, wF_ct, wV_sh, wV_lst, wL_lst, get_zero, get_succ, set_zero, set_succ, gv_zero, gv_succ, pv_sh, pv_lst, own_sh, own_lst, isV_var, truth_bl, truth_int, c_lt, c_le, c_gt, c_ge, c_eq, c_ne, o_add, o_sub, len_lst, len_tup, Bool.false_and, Bool.true_and, Bool.and_false, Bool.and_true, isV, tk_v, tk_n, tk_0, tk_1, pu_v, pu_n, pu_0, pu_1, Option.map_some, List.length_cons, List.length_nil, List.contains_cons, List.contains_nil, Bool.or_false, Bool.not_false, Bool.not_true, decide_true, decide_false, Nat.zero_add, Nat.reduceAdd, Nat.reduceLT, Nat.reduceBEq, lockCs_n, lockO_n, unlock_n, lockCs_s, lockO_s, unlock_s, slots_v, slots_t, slots_n, slots_c, asg_t, asgs_n, asgs_c, asg_v', List.singleton_append, List.append_nil, List.all_cons, List.all_nil, Option.bind_some, Bool.false_eq_true, if_false, if_true, rho_c, cst12, d1, r]))
    exact ⟨trivial, trivial⟩
  · have d1 : decide (1 < b) = false := decide_eq_false h
    repeat (first | rw [wx_cons] | rw [wx_nil] | rw [wx_ifs] | rw [wx_set] | rw [wx_setT] | rw [w_asgF] | rw [wx_ret] | rw [wx_retN] | rw [wx_app] | rw [wx_setIx] | rw [w_setIxR] | rw [wx_aug] | rw [wx_augIx] | rw [wx_expr] | rw [wx_par2] | rw [wx_par3] | rw [w_setV] | rw [wx_pass] | rw [wx_brk] | rw [wx_cont] | rw [wt_and] | rw [wt_or] | rw [wt_not] | rw [wt_var] | rw [wt_cmp] | rw [wt_chn] | rw [wt_isN] | rw [wt_inn] | rw [wt_call] | rw [wt_bi] | rw [wt_ix] | rw [wt_isi] | rw [we_int] | rw [we_bl] | rw [we_non] | rw [we_str] | rw [we_var] | rw [we_glb] | rw [we_tup] | rw [we_lst] | rw [we_bin] | rw [we_neg] | rw [we_cmp] | rw [we_isN] | rw [we_inn] | rw [we_not] | rw [we_and] | rw [we_or] | rw [we_ite] | rw [we_ix] | rw [we_sl] | rw [we_rev] | rw [we_call] | rw [we_bi] | rw [we_isi] | rw [ws_nil] | rw [ws_cons] | rw [wP_one] | rw [wP_more] | rw [wA_nil] | rw [wA_cons] | rw [wo_no] | rw [wo_yes] | rw [w_late] | rw [w_peek] | rw [w_arg] | rw [w_frz] | rw [w_intR] | rw [wCall_some] | rw [wLate_n] | rw [wLate_v] | rw [wPeek_n] | rw [wPeek_v] | rw [wArg_n] | rw [wArg_v] | rw [wr_seq] | rw [wr_enum] | rw [wr_rng] | rw [wr_rng2] | rw [wOpen_v] | rw [wOpen_n] | rw [w_open] | rw [wx_for] | rw [w_turn] | rw [we_comp] | rw [w_bodyC] | rw [wp_opt] | rw [wp_bind] | (simp only [wp_ok, wO_some, wI_int, wB_t, wB_f, wF_nx, wF_rt, wF_bk, wF_ct, wV_sh, wV_lst, wL_lst, get_zero, get_succ, set_zero, set_succ, gv_zero, gv_succ, pv_sh, pv_lst, own_sh, own_lst, isV_var, truth_bl, truth_int, c_lt, c_le, c_gt, c_ge, c_eq, c_ne, o_add, o_sub, len_lst, len_tup, Bool.false_and, Bool.true_and, Bool.and_false, Bool.and_true, isV, tk_v, tk_n, tk_0, tk_1, pu_v, pu_n, pu_0, pu_1, Option.map_some, List.length_cons, List.length_nil, List.contains_cons, List.contains_nil, Bool.or_false, Bool.not_false, Bool.not_true, decide_true, decide_false, Nat.zero_add, Nat.reduceAdd, Nat.reduceLT, Nat.reduceBEq, lockCs_n, lockO_n, unlock_n, lockCs_s, lockO_s, unlock_s, slots_v, slots_t, slots_n, slots_c, asg_t, asgs_n, asgs_c, asg_v', List.singleton_append, List.append_nil, List.all_cons, List.all_nil, Option.bind_some, Bool.false_eq_true, if_false, if_true, d1]))
    exact ⟨trivial, trivial⟩
end PF.K51
set_option Elab.async false
set_option linter.all false
set_option maxRecDepth 1000000
set_option maxHeartbeats 4000000
namespace PF.K51
open PySem PySem.Spec PyProof.Rows PF
abbrev lS6 : St := .ifs (.or (.not (.call 12 (.cons (.var 4) (.cons (.var 6) (.cons (.var 7) .nil))))) (.not (.call 12 (.cons (.var 4) (.cons (.bin .add (.var 6) (.call 6 (.cons (.var 1) (.cons (.int 4) .nil)))) (.cons (.bin .add (.var 7) (.int 3)) .nil)))))) (.cons (.ret (.bl false)) .nil) .nil
theorem law_s6 (n : Nat) (L : List PV) (a b : Int) (z : Sz n L a b) (ns : List Int) (i q d : Int) (h : PoolOk i q d) (sc t lg x5 : OV) : Wp (ex (Γ (n + 6)) [] lS6 [sc, Pool ns i q d, t, lg, .sh (.lst L), x5, .sh (.int a), .sh (.int b)]) fun f s => f = .nx ∧ ∃ i q d : Int, s = [sc, Pool ns i q d, t, lg, .sh (.lst L), x5, .sh (.int a), .sh (.int b)] ∧ PoolOk i q d := by
  have z1 := z.a1; have z2 := z.a2; have z3 := z.b1; have z4 := z.b2; have z5 := z.ll
  have r := z.rn a b (by omega) (by omega) (by omega) (by omega)
  have r2 : decide (a ≤ a ∧ b ≤ b) = true := decide_eq_true (by omega)
  rw [r2] at r
  have dr := c_draw (n + 5) ns i q d 4 h (by decide) (by decide)
  unfold Pool at dr ⊢
  repeat (first | rw [wx_cons] | rw [wx_nil] | rw [wx_ifs] | rw [wx_set] | rw [wx_setT] | rw [w_asgF] | rw [wx_ret] | rw [wx_retN] | rw [wx_app] | rw [wx_setIx] | rw [w_setIxR] | rw [wx_aug] | rw [wx_augIx] | rw [wx_expr] | rw [wx_par2] | rw [wx_par3] | rw [w_setV] | rw [wx_pass] | rw [wx_brk] | rw [wx_cont] | rw [wt_and] | rw [wt_or] | rw [wt_not] | rw [wt_var] | rw [wt_cmp] | rw [wt_chn] | rw [wt_isN] | rw [wt_inn] | rw [wt_call] | rw [wt_bi] | rw [wt_ix] | rw [wt_isi] | rw [we_int] | rw [we_bl] | rw [we_non] | rw [we_str] | rw [we_var] | rw [we_glb] | rw [we_tup] | rw [we_lst] | rw [we_bin] | rw [we_neg] | rw [we_cmp] | rw [we_isN] | rw [we_inn] | rw [we_not] | rw [we_and] | rw [we_or] | rw [we_ite] | rw [we_ix] | rw [we_sl] | rw [we_rev] | rw [we_call] | rw [we_bi] | rw [we_isi] | rw [ws_nil] | rw [ws_cons] | rw [wP_one] | rw [wP_more] | rw [wA_nil] | rw [wA_cons] | rw [wo_no] | rw [wo_yes] | rw [w_late] | rw [w_peek] | rw [w_arg] | rw [w_frz] | rw [w_intR] | rw [wCall_some] | rw [wLate_n] | rw [wLate_v] | rw [wPeek_n] | rw [wPeek_v] | rw [wArg_n] | rw [wArg_v] | rw [wr_seq] | rw [wr_enum] | rw [wr_rng] | rw [wr_rng2] | rw [wOpen_v] | rw [wOpen_n] | rw [w_open] | rw [wx_for] | rw [w_turn] | rw [we_comp] | rw [w_bodyC] | rw [wp_opt] | rw [wp_bind] | (simp only [wp_ok, wO_some, wI_int, wB_t, wB_f, wF_nx, wF_rt, wF_bk, wF_ct, wV_sh, wV_lst, wL_lst, get_zero, get_succ, set_zero, set_succ, gv_zero, gv_succ, pv_sh, pv_lst, own_sh, own_lst, isV_var, truth_bl, truth_int, c_lt, c_le, c_gt, c_ge, c_eq, c_ne, o_add, o_sub, len_lst, len_tup, Bool.false_and, Bool.true_and, Bool.and_false, Bool.and_true, isV, tk_v, tk_n, tk_0, tk_1, pu_v, pu_n, pu_0, pu_1, Option.map_some, List.length_cons, List.length_nil, List.contains_cons, List.contains_nil, Bool.or_false, Bool.not_false, Bool.not_true, decide_true, decide_false, Nat.zero_add, Nat.reduceAdd, Nat.reduceLT, Nat.reduceBEq, lockCs_n, lockO_n, unlock_n, lockCs_s, lockO_s, unlock_s, slots_v, slots_t, slots_n, slots_c, asg_t, asgs_n, asgs_c, asg_v', List.singleton_append, List.append_nil, List.all_cons, List.all_nil, Option.bind_some, Bool.false_eq_true, if_false, if_true, rho_c, cst12, cst6, r]))
  refine wp_imp dr fun v o ⟨i2, b2, d2, k, e1, e2, h2, w0, w1⟩ => ?_
  subst e1 e2
  have u := z.rn (a + k) (b + 3) (by omega) (by omega) (by omega) (by omega)
  have u2 : decide (a ≤ a + k ∧ b ≤ b + 3) = true := decide_eq_true (by omega)
  rw [u2] at u
  unfold Pool
  repeat (first | rw [wx_cons] | rw [wx_nil] | rw [wx_ifs] | rw [wx_set] | rw [wx_setT] | rw [w_asgF] | rw [wx_ret] | rw [wx_retN] | rw [wx_app] | rw [wx_setIx] | rw [w_setIxR] | rw [wx_aug] | rw [wx_augIx] | rw [wx_expr] | rw [wx_par2] | rw [wx_par3] | rw [w_setV] | rw [wx_pass] | rw [wx_brk] | rw [wx_cont] | rw [wt_and] | rw [wt_or] | rw [wt_not] | rw [wt_var] | rw [wt_cmp] | rw [wt_chn] | rw [wt_isN] | rw [wt_inn] | rw [wt_call] | rw [wt_bi] | rw [wt_ix] | rw [wt_isi] | rw [we_int] | rw [we_bl] | rw [we_non] | rw [we_str] | rw [we_var] | rw [we_glb] | rw [we_tup] | rw [we_lst] | rw [we_bin] | rw [we_neg] | rw [we_cmp] | rw [we_isN] | rw [we_inn] | rw [we_not] | rw [we_and] | rw [we_or] | rw [we_ite] | rw [we_ix] | rw [we_sl] | rw [we_rev] | rw [we_call] | rw [we_bi] | rw [we_isi] | rw [ws_nil] | rw [ws_cons] | rw [wP_one] | rw [wP_more] | rw [wA_nil] | rw [wA_cons] | rw [wo_no] | rw [wo_yes] | rw [w_late] | rw [w_peek] | rw [w_arg] | rw [w_frz] | rw [w_intR] | rw [wCall_some] | rw [wLate_n] | rw [wLate_v] | rw [wPeek_n] | rw [wPeek_v] | rw [wArg_n] | rw [wArg_v] | rw [wr_seq] | rw [wr_enum] | rw [wr_rng] | rw [wr_rng2] | rw [wOpen_v] | rw [wOpen_n] | rw [w_open] | rw [wx_for] | rw [w_turn] | rw [we_comp] | rw [w_bodyC] | rw [wp_opt] | rw [wp_bind] | (simp only [wp_ok, wO_some, wI_int, wB_t, wB_f, wF_nx, wF_rt, wF_bk, wF_ct, wV_sh, wV_lst, wL_lst, get_zero, get_succ, set_zero, set_succ, gv_zero, gv_succ, pv_sh, pv_lst, own_sh, own_lst, isV_var, truth_bl, truth_int, c_lt, c_le, c_gt, c_ge, c_eq, c_ne, o_add, o_sub, len_lst, len_tup, Bool.false_and, Bool.true_and, Bool.and_false, Bool.and_true, isV, tk_v, tk_n, tk_0, tk_1, pu_v, pu_n, pu_0, pu_1, Option.map_some, List.length_cons, List.length_nil, List.contains_cons, List.contains_nil, Bool.or_false, Bool.not_false, Bool.not_true, decide_true, decide_false, Nat.zero_add, Nat.reduceAdd, Nat.reduceLT, Nat.reduceBEq, lockCs_n, lockO_n, unlock_n, lockCs_s, lockO_s, unlock_s, slots_v, slots_t, slots_n, slots_c, asg_t, asgs_n, asgs_c, asg_v', List.singleton_append, List.append_nil, List.all_cons, List.all_nil, Option.bind_some, Bool.false_eq_true, if_false, if_true, rho_c, cst12, u]))
  exact ⟨trivial, i2, b2, d2, rfl, h2⟩
end PF.K51
set_option Elab.async false
set_option linter.all false
set_option maxRecDepth 100000
set_option maxHeartbeats 4000000
namespace PF.K51
open PySem PySem.Spec PyProof.Rows PF
theorem rep_cut (k : Nat) (s : Sd) : ∀ (q : Bool) (n0 n1 c0 c1 : Int), 1 - c0 ≤ n0 → 1 - c1 ≤ n1 →
    (List.replicate k (Stp.cut s)).foldl Rz.step ⟨q, n0, n1, c0, c1⟩ = if (s.vert != q) = true then ⟨q, mx n0 (1 - c0 + k), n1, c0 - k, c1⟩ else ⟨q, n0, mx n1 (1 - c1 + k), c0, c1 - k⟩ := by
  induction k with
  | zero =>
    intro q n0 n1 c0 c1 h0 h1
    have e0 : mx n0 (1 - c0 + (0 : Nat)) = n0 := by unfold mx; split <;> omega
    have e1 : mx n1 (1 - c1 + (0 : Nat)) = n1 := by unfold mx; split <;> omega
    rw [e0, e1]
    simp
  | succ k ih =>
    intro q n0 n1 c0 c1 h0 h1
    rw [List.replicate_succ, List.foldl_cons]
    cases hv : (s.vert != q) with
    | true =>
      have e : Rz.step ⟨q, n0, n1, c0, c1⟩ (.cut s) = ⟨q, mx n0 (1 - (c0 + -1)), n1, c0 + -1, c1⟩ := by simp only [Rz.step, Rz.hit, hv]
      rw [e, ih _ _ _ _ _ (by unfold mx; split <;> omega) h1, hv]
      simp only [if_true, Rz.mk.injEq, true_and, and_true]
      refine ⟨?_, by omega⟩
      unfold mx
      repeat' split
      all_goals omega
    | false =>
      have e : Rz.step ⟨q, n0, n1, c0, c1⟩ (.cut s) = ⟨q, n0, mx n1 (1 - (c1 + -1)), c0, c1 + -1⟩ := by simp only [Rz.step, Rz.hit, hv]
      rw [e, ih _ _ _ _ _ h0 (by unfold mx; split <;> omega), hv]
      simp only [if_false, Bool.false_eq_true, Rz.mk.injEq, true_and, and_true]
      refine ⟨?_, by omega⟩
      unfold mx
      repeat' split
      all_goals omega
theorem rep_add (k : Nat) (s : Sd) (x : Int) : ∀ (q : Bool) (n0 n1 c0 c1 : Int), 1 - c0 ≤ n0 → 1 - c1 ≤ n1 →
    ((List.replicate k (Stp.add s x)).foldl Rz.step ⟨q, n0, n1, c0, c1⟩).n0 = n0 ∧ ((List.replicate k (Stp.add s x)).foldl Rz.step ⟨q, n0, n1, c0, c1⟩).n1 = n1 := by
  induction k with
  | zero => intro q n0 n1 c0 c1 h0 h1; exact ⟨rfl, rfl⟩
  | succ k ih =>
    intro q n0 n1 c0 c1 h0 h1
    rw [List.replicate_succ, List.foldl_cons]
    cases hv : (s.vert != q) with
    | true =>
      have m : mx n0 (1 - (c0 + 1)) = n0 := by unfold mx; split <;> omega
      have e : Rz.step ⟨q, n0, n1, c0, c1⟩ (.add s x) = ⟨q, n0, n1, c0 + 1, c1⟩ := by simp only [Rz.step, Rz.hit, hv, m]
      rw [e]
      exact ih _ _ _ _ _ (by omega) h1
    | false =>
      have m : mx n1 (1 - (c1 + 1)) = n1 := by unfold mx; split <;> omega
      have e : Rz.step ⟨q, n0, n1, c0, c1⟩ (.add s x) = ⟨q, n0, n1, c0, c1 + 1⟩ := by simp only [Rz.step, Rz.hit, hv, m]
      rw [e]
      exact ih _ _ _ _ _ h0 (by omega)
def ts1 : List Stp := List.replicate 100 (.cut .top) ++ [.turn] ++ List.replicate 50 (.cut .left) ++ List.replicate 49 (.cut .top)
def ts2 : List Stp := List.replicate 200 (.add .left 3)
theorem rzs1 : (rzs ts1).n0 = 151 ∧ (rzs ts1).n1 = 50 := by
  unfold rzs ts1 rz0
  rw [List.foldl_append, List.foldl_append, List.foldl_append, rep_cut 100 .top false 1 1 0 0 (by decide) (by decide)]
  have e1 : (if (Sd.top.vert != false) = true then (⟨false, mx 1 (1 - 0 + (100 : Nat)), 1, 0 - (100 : Nat), 0⟩ : Rz) else ⟨false, 1, mx 1 (1 - 0 + (100 : Nat)), 0, 0 - (100 : Nat)⟩) = ⟨false, 101, 1, -100, 0⟩ := rfl
  rw [e1]
  have e2 : [Stp.turn].foldl Rz.step ⟨false, 101, 1, -100, 0⟩ = ⟨true, 101, 1, -100, 0⟩ := rfl
  rw [e2, rep_cut 50 .left true 101 1 (-100) 0 (by decide) (by decide)]
  have e3 : (if (Sd.left.vert != true) = true then (⟨true, mx 101 (1 - -100 + (50 : Nat)), 1, -100 - (50 : Nat), 0⟩ : Rz) else ⟨true, 101, mx 1 (1 - 0 + (50 : Nat)), -100, 0 - (50 : Nat)⟩) = ⟨true, 151, 1, -150, 0⟩ := rfl
  rw [e3, rep_cut 49 .top true 151 1 (-150) 0 (by decide) (by decide)]
  exact ⟨rfl, rfl⟩
theorem rzs2 : (rzs ts2).n0 = 1 ∧ (rzs ts2).n1 = 1 := rep_add 200 .left 3 false 1 1 0 0 (by decide) (by decide)
theorem ok1 : ∀ t, t ∈ ts1 → t.ok := by
  intro t h
  unfold ts1 at h
  rcases List.mem_append.mp h with h | h
  · rcases List.mem_append.mp h with h | h
    · rcases List.mem_append.mp h with h | h
      · rw [(List.mem_replicate.mp h).2]; exact True.intro
      · rw [List.mem_singleton.mp h]; exact True.intro
    · rw [(List.mem_replicate.mp h).2]; exact True.intro
  · rw [(List.mem_replicate.mp h).2]; exact True.intro
theorem ok2 : ∀ t, t ∈ ts2 → t.ok := by
  intro t h
  unfold ts2 at h
  rw [(List.mem_replicate.mp h).2]
  exact (by decide : (0 : Int) ≤ 3)
theorem len1 : ts1.length ≤ 200 := by
  unfold ts1
  simp
theorem len2' : ts2.length ≤ 200 := by
  unfold ts2
  simp
theorem mul_gen {a : List PV} {k : Int} (h : -(2 ^ 63) ≤ k ∧ k < 2 ^ 63 ∧ a.length * k.toNat ≤ big) : binop .mul (.lst a) (.int k) = some (.lst (List.replicate k.toNat a).flatten) := if_pos h
theorem mul_rep (x : PV) (k : Nat) (h : k ≤ 1000) : binop .mul (.lst [x]) (.int k) = some (.lst (List.replicate k x)) := by
  have q : -(2 ^ 63) ≤ (k : Int) ∧ (k : Int) < 2 ^ 63 ∧ [x].length * (k : Int).toNat ≤ big := ⟨by omega, by omega, by unfold big; simp; omega⟩
  rw [mul_gen q, Int.toNat_natCast, List.flatten_replicate_singleton]
theorem add_lst (a b : List PV) (h : a.length + b.length ≤ 1000) : binop .add (.lst a) (.lst b) = some (.lst (a ++ b)) := if_pos (by unfold big; omega)
theorem ts1_pv : (List.replicate 100 (Stp.cut .top).pv ++ [Stp.turn.pv] ++ List.replicate 50 (Stp.cut .left).pv ++ List.replicate 49 (Stp.cut .top).pv) = ts1.map Stp.pv := by
  unfold ts1
  simp only [List.map_append, List.map_replicate, List.map_cons, List.map_nil]
theorem ts2_pv : List.replicate 200 (Stp.add .left 3).pv = ts2.map Stp.pv := by
  unfold ts2
  simp only [List.map_replicate]
end PF.K51
set_option Elab.async false
set_option linter.all false
set_option maxRecDepth 1000000
set_option maxHeartbeats 4000000
namespace PF.K51
open PySem PySem.Spec PyProof.Rows PF
abbrev lBody : Sts := .cons lS1 (.cons lS2 (.cons lS3 (.cons lS4 (.cons lS5 (.cons lS6 (.cons lS7 (.cons lS8 .nil)))))))
def LawS (ns : List Int) (sc : OV) (s : S) : Prop := ∃ (i q d : Int) (t x4 x5 x6 x7 : OV), s = [sc, Pool ns i q d, t, .emp, x4, x5, x6, x7] ∧ PoolOk i q d
theorem seq2 {Γ : Env} {cs : List Nat} {st : St} {r : Sts} {s : S} {Q : Fl → S → Prop} {M : S → Prop} (h : Wp (ex Γ cs st s) fun f s => f = .nx ∧ M s) (k : ∀ s, M s → Wp (exs Γ cs r s) Q) : Wp (exs Γ cs (.cons st r) s) Q := by
  rw [wx_cons]
  refine wp_imp h fun f s ⟨e, m⟩ => ?_
  subst e
  rw [wF_nx]
  exact k s m
theorem law_body (n : Nat) (ns : List Int) (i q d : Int) (h : PoolOk i q d) (sc t x4 x5 x6 x7 : OV) : Wp (exs (Γ (n + 6)) [] lBody [sc, Pool ns i q d, t, .emp, x4, x5, x6, x7]) fun f s => f = .nx ∧ LawS ns sc s := by
  refine seq2 (law_s1 (n + 4) ns i q d h sc t .emp x4 x5 x6 x7) fun s ⟨i, q, d, ts, e, h, hl, hok⟩ => ?_
  subst e
  have z := sz_of n ts hok hl
  refine seq2 (law_s2 n _ _ _ z _ _ _ _ _ _ _) fun s e => ?_
  subst e
  refine seq2 (law_s3 n _ _ _ z _ _ _ _ _ _) fun s e => ?_
  subst e
  refine seq2 (law_s4 n _ _ _ _ _ _ _ _ _) fun s e => ?_
  subst e
  refine seq2 (law_s5 n _ _ _ z _ _ _ _ _) fun s e => ?_
  subst e
  refine seq2 (law_s6 n _ _ _ z ns i q d h _ _ _ _) fun s ⟨i, q, d, e, h⟩ => ?_
  subst e
  refine seq2 (law_s7 n _ _ _ z _ _ _ _ _) fun s e => ?_
  subst e
  refine seq2 (law_s8 n _ _ _ z _ _ _ _ _) fun s e => ?_
  subst e
  rw [wx_nil]
  exact ⟨rfl, i, q, d, _, _, _, _, _, rfl, h⟩
abbrev eTop : Ex := .lst (.cons (.tup (.cons (.str [99, 117, 116]) (.cons (.str [116, 111, 112]) .nil))) .nil)
abbrev eLeft : Ex := .lst (.cons (.tup (.cons (.str [99, 117, 116]) (.cons (.str [108, 101, 102, 116]) .nil))) .nil)
abbrev eTurn : Ex := .lst (.cons (.tup (.cons (.str [116, 117, 114, 110]) .nil)) .nil)
abbrev eAdd : Ex := .lst (.cons (.tup (.cons (.str [97, 100, 100]) (.cons (.str [108, 101, 102, 116]) (.cons (.int 3) .nil)))) .nil)
abbrev eLong : Ex := .bin .add (.bin .add (.bin .add (.bin .mul eTop (.int 100)) eTurn) (.bin .mul eLeft (.int 50))) (.bin .mul eTop (.int 49))
abbrev eRet : Ex := .and (.cmp .eq (.call 5 (.cons (.var 3) .nil)) (.tup (.cons (.int 151) (.cons (.int 50) .nil)))) (.cmp .eq (.call 5 (.cons (.bin .mul eAdd (.int 200)) .nil)) (.tup (.cons (.int 1) (.cons (.int 1) .nil))))
theorem law_shape : f_law.body = .cons (.set (.v 1) (.lst (.cons (.bi .list (.cons (.var 0) .nil)) (.cons (.int 0) (.cons (.int 0) (.cons (.int 1) .nil)))))) (.cons (.for_ (.v 2) (.rng (.int 4)) lBody) (.cons (.set (.v 3) eLong) (.cons (.ret eRet) .nil))) := rfl
end PF.K51
set_option Elab.async false
set_option linter.all false
set_option maxRecDepth 1000000
set_option maxHeartbeats 4000000
namespace PF.K51
open PySem PySem.Spec PyProof.Rows PF
abbrev vTop : PV := .tup [.str [99, 117, 116], .str [116, 111, 112]]
abbrev vLeft : PV := .tup [.str [99, 117, 116], .str [108, 101, 102, 116]]
abbrev vTurn : PV := .tup [.str [116, 117, 114, 110]]
abbrev vAdd : PV := .tup [.str [97, 100, 100], .str [108, 101, 102, 116], .int 3]
theorem long_gen (n : Nat) (A B C D E F : List PV) (hA : binop .mul (.lst [vTop]) (.int 100) = some (.lst A)) (hB : binop .mul (.lst [vLeft]) (.int 50) = some (.lst B)) (hC : binop .mul (.lst [vTop]) (.int 49) = some (.lst C))
    (h1 : binop .add (.lst A) (.lst [vTurn]) = some (.lst D)) (h2 : binop .add (.lst D) (.lst B) = some (.lst E)) (h3 : binop .add (.lst E) (.lst C) = some (.lst F)) (sc pl t x4 x5 x6 x7 : OV) :
    Wp (ex (Γ n) [] (.set (.v 3) eLong) [sc, pl, t, .emp, x4, x5, x6, x7]) fun f s => f = .nx ∧ s = [sc, pl, t, .lst F, x4, x5, x6, x7] := by
  repeat (first | rw [wx_cons] | rw [wx_nil] | rw [wx_ifs] | rw [wx_set] | rw [wx_setT] | rw [w_asgF] | rw [wx_ret] | rw [wx_retN] | rw [wx_app] | rw [wx_setIx] | rw [w_setIxR] | rw [wx_aug] | rw [wx_augIx] | rw [wx_expr] | rw [wx_par2] | rw [wx_par3] | rw [w_setV] | rw [wx_pass] | rw [wx_brk] | rw [wx_cont] | rw [wt_and] | rw [wt_or] | rw [wt_not] | rw [wt_var] | rw [wt_cmp] | rw [wt_chn] | rw [wt_isN] | rw [wt_inn] | rw [wt_call] | rw [wt_bi] | rw [wt_ix] | rw [wt_isi] | rw [we_int] | rw [we_bl] | rw [we_non] | rw [we_str] | rw [we_var] | rw [we_glb] | rw [we_tup] | rw [we_lst] | rw [we_bin] | rw [we_neg] | rw [we_cmp] | rw [we_isN] | rw [we_inn] | rw [we_not] | rw [we_and] | rw [we_or] | rw [we_ite] | rw [we_ix] | rw [we_sl] | rw [we_rev] | rw [we_call] | rw [we_bi] | rw [we_isi] | rw [ws_nil] | rw [ws_cons] | rw [wP_one] | rw [wP_more] | rw [wA_nil] | rw [wA_cons] | rw [wo_no] | rw [wo_yes] | rw [w_late] | rw [w_peek] | rw [w_arg] | rw [w_frz] | rw [w_intR] | rw [wCall_some] | rw [wLate_n] | rw [wLate_v] | rw [wPeek_n] | rw [wPeek_v] | rw [wArg_n] | rw [wArg_v] | rw [wr_seq] | rw [wr_enum] | rw [wr_rng] | rw [wr_rng2] | rw [wOpen_v] | rw [wOpen_n] | rw [w_open] | rw [wx_for] | rw [w_turn] | rw [we_comp] | rw [w_bodyC] | rw [wp_opt] | rw [wp_bind] | (simp only [wp_ok, wO_some, wI_int, wB_t, wB_f, wF_nx, wF_rt, wF_bk, wF_ct, wV_sh, wV_lst, wL_lst, get_zero, get_succ, set_zero, set_succ, gv_zero, gv_succ, pv_sh, pv_lst, own_sh, own_lst, isV_var, truth_bl, truth_int, c_lt, c_le, c_gt, c_ge, c_eq, c_ne, o_add, o_sub, len_lst, len_tup, Bool.false_and, Bool.true_and, Bool.and_false, Bool.and_true, isV, tk_v, tk_n, tk_0, tk_1, pu_v, pu_n, pu_0, pu_1, Option.map_some, List.length_cons, List.length_nil, List.contains_cons, List.contains_nil, Bool.or_false, Bool.not_false, Bool.not_true, decide_true, decide_false, Nat.zero_add, Nat.reduceAdd, Nat.reduceLT, Nat.reduceBEq, lockCs_n, lockO_n, unlock_n, lockCs_s, lockO_s, unlock_s, slots_v, slots_t, slots_n, slots_c, asg_t, asgs_n, asgs_c, asg_v', List.singleton_append, List.append_nil, List.all_cons, List.all_nil, Option.bind_some, Bool.false_eq_true, if_false, if_true, hA, hB, hC, h1, h2, h3]))
  exact ⟨trivial, trivial⟩
theorem eq2 (a b : Int) : cmpop .eq (.tup [.int a, .int b]) (.tup [.int a, .int b]) = some true := by
  show (if eqOk 16 (.tup [.int a, .int b]) && eqOk 16 (.tup [.int a, .int b]) then some (peq (.tup [.int a, .int b]) (.tup [.int a, .int b])) else none) = _
  rw [peq2, show eqOk 16 (.tup [.int a, .int b]) = true from rfl]
  simp
theorem ret_gen (n : Nat) (F G : List PV) (hG : binop .mul (.lst [vAdd]) (.int 200) = some (.lst G)) (s1 : c n 5 [.sh (.lst F)] = .ok (.sh (.tup [.int 151, .int 50])) [.emp]) (s2 : c n 5 [.sh (.lst G)] = .ok (.sh (.tup [.int 1, .int 1])) [.emp]) (sc pl t x4 x5 x6 x7 : OV) :
    Wp (ex (Γ n) [] (.ret eRet) [sc, pl, t, .lst F, x4, x5, x6, x7]) fun f s => f = .rt (.sh (.bl true)) := by
  repeat (first | rw [wx_cons] | rw [wx_nil] | rw [wx_ifs] | rw [wx_set] | rw [wx_setT] | rw [w_asgF] | rw [wx_ret] | rw [wx_retN] | rw [wx_app] | rw [wx_setIx] | rw [w_setIxR] | rw [wx_aug] | rw [wx_augIx] | rw [wx_expr] | rw [wx_par2] | rw [wx_par3] | rw [w_setV] | rw [wx_pass] | rw [wx_brk] | rw [wx_cont] | rw [wt_and] | rw [wt_or] | rw [wt_not] | rw [wt_var] | rw [wt_cmp] | rw [wt_chn] | rw [wt_isN] | rw [wt_inn] | rw [wt_call] | rw [wt_bi] | rw [wt_ix] | rw [wt_isi] | rw [we_int] | rw [we_bl] | rw [we_non] | rw [we_str] | rw [we_var] | rw [we_glb] | rw [we_tup] | rw [we_lst] | rw [we_bin] | rw [we_neg] | rw [we_cmp] | rw [we_isN] | rw [we_inn] | rw [we_not] | rw [we_and] | rw [we_or] | rw [we_ite] | rw [we_ix] | rw [we_sl] | rw [we_rev] | rw [we_call] | rw [we_bi] | rw [we_isi] | rw [ws_nil] | rw [ws_cons] | rw [wP_one] | rw [wP_more] | rw [wA_nil] | rw [wA_cons] | rw [wo_no] | rw [wo_yes] | rw [w_late] | rw [w_peek] | rw [w_arg] | rw [w_frz] | rw [w_intR] | rw [wCall_some] | rw [wLate_n] | rw [wLate_v] | rw [wPeek_n] | rw [wPeek_v] | rw [wArg_n] | rw [wArg_v] | rw [wr_seq] | rw [wr_enum] | rw [wr_rng] | rw [wr_rng2] | rw [wOpen_v] | rw [wOpen_n] | rw [w_open] | rw [wx_for] | rw [w_turn] | rw [we_comp] | rw [w_bodyC] | rw [wp_opt] | rw [wp_bind] | (simp only [wp_ok, wO_some, wI_int, wB_t, wB_f, wF_nx, wF_rt, wF_bk, wF_ct, wV_sh, wV_lst, wL_lst, get_zero, get_succ, set_zero, set_succ, gv_zero, gv_succ, pv_sh, pv_lst, own_sh, own_lst, isV_var, truth_bl, truth_int, c_lt, c_le, c_gt, c_ge, c_eq, c_ne, o_add, o_sub, len_lst, len_tup, Bool.false_and, Bool.true_and, Bool.and_false, Bool.and_true, isV, tk_v, tk_n, tk_0, tk_1, pu_v, pu_n, pu_0, pu_1, Option.map_some, List.length_cons, List.length_nil, List.contains_cons, List.contains_nil, Bool.or_false, Bool.not_false, Bool.not_true, decide_true, decide_false, Nat.zero_add, Nat.reduceAdd, Nat.reduceLT, Nat.reduceBEq, lockCs_n, lockO_n, unlock_n, lockCs_s, lockO_s, unlock_s, slots_v, slots_t, slots_n, slots_c, asg_t, asgs_n, asgs_c, asg_v', List.singleton_append, List.append_nil, List.all_cons, List.all_nil, Option.bind_some, Bool.false_eq_true, if_false, if_true, rho_c, cst5, hG, s1, s2, eq2]))
  try rfl
end PF.K51
set_option Elab.async false
set_option linter.all false
set_option maxRecDepth 1000000
set_option maxHeartbeats 4000000
namespace PF.K51
open PySem PySem.Spec PyProof.Rows PF
theorem mulT : binop .mul (.lst [vTop]) (.int 100) = some (.lst (List.replicate 100 vTop)) := mul_rep vTop 100 (by decide)
theorem mulL : binop .mul (.lst [vLeft]) (.int 50) = some (.lst (List.replicate 50 vLeft)) := mul_rep vLeft 50 (by decide)
theorem mulC : binop .mul (.lst [vTop]) (.int 49) = some (.lst (List.replicate 49 vTop)) := mul_rep vTop 49 (by decide)
theorem mulA : binop .mul (.lst [vAdd]) (.int 200) = some (.lst (List.replicate 200 vAdd)) := mul_rep vAdd 200 (by decide)
abbrev F1 : List PV := List.replicate 100 vTop ++ [vTurn]
abbrev F2 : List PV := F1 ++ List.replicate 50 vLeft
abbrev F3 : List PV := F2 ++ List.replicate 49 vTop
theorem add1 : binop .add (.lst (List.replicate 100 vTop)) (.lst [vTurn]) = some (.lst F1) := add_lst _ _ (by rw [List.length_replicate]; decide)
theorem add2 : binop .add (.lst F1) (.lst (List.replicate 50 vLeft)) = some (.lst F2) := add_lst _ _ (by rw [List.length_append, List.length_replicate, List.length_replicate]; decide)
theorem add3 : binop .add (.lst F2) (.lst (List.replicate 49 vTop)) = some (.lst F3) := add_lst _ _ (by rw [List.length_append, List.length_append, List.length_replicate, List.length_replicate, List.length_replicate]; decide)
theorem size1 (n : Nat) : c (n + 6) 5 [.sh (.lst F3)] = .ok (.sh (.tup [.int 151, .int 50])) [.emp] := by
  have z := c_size n ts1 ok1 len1 (.lst (ts1.map Stp.pv)) (.inl rfl)
  rw [rzs1.1, rzs1.2, ← ts1_pv] at z
  exact z
theorem size2 (n : Nat) : c (n + 6) 5 [.sh (.lst (List.replicate 200 vAdd))] = .ok (.sh (.tup [.int 1, .int 1])) [.emp] := by
  have z := c_size n ts2 ok2 len2' (.lst (ts2.map Stp.pv)) (.inl rfl)
  rw [rzs2.1, rzs2.2, ← ts2_pv] at z
  exact z
theorem pool0 (ns : List Int) (sc x2 x3 x4 x5 x6 x7 : OV) (hsc : sc = .sh (.frz (ns.map PV.int))) (n : Nat) :
    Wp (ex (Γ n) [] (.set (.v 1) (.lst (.cons (.bi .list (.cons (.var 0) .nil)) (.cons (.int 0) (.cons (.int 0) (.cons (.int 1) .nil)))))) [sc, .emp, x2, x3, x4, x5, x6, x7]) fun f s => f = .nx ∧ s = [sc, Pool ns 0 0 1, x2, x3, x4, x5, x6, x7] := by
  subst hsc
  unfold Pool
  repeat (first | rw [wx_cons] | rw [wx_nil] | rw [wx_ifs] | rw [wx_set] | rw [wx_setT] | rw [w_asgF] | rw [wx_ret] | rw [wx_retN] | rw [wx_app] | rw [wx_setIx] | rw [w_setIxR] | rw [wx_aug] | rw [wx_augIx] | rw [wx_expr] | rw [wx_par2] | rw [wx_par3] | rw [w_setV] | rw [wx_pass] | rw [wx_brk] | rw [wx_cont] | rw [wt_and] | rw [wt_or] | rw [wt_not] | rw [wt_var] | rw [wt_cmp] | rw [wt_chn] | rw [wt_isN] | rw [wt_inn] | rw [wt_call] | rw [wt_bi] | rw [wt_ix] | rw [wt_isi] | rw [we_int] | rw [we_bl] | rw [we_non] | rw [we_str] | rw [we_var] | rw [we_glb] | rw [we_tup] | rw [we_lst] | rw [we_bin] | rw [we_neg] | rw [we_cmp] | rw [we_isN] | rw [we_inn] | rw [we_not] | rw [we_and] | rw [we_or] | rw [we_ite] | rw [we_ix] | rw [we_sl] | rw [we_rev] | rw [we_call] | rw [we_bi] | rw [we_isi] | rw [ws_nil] | rw [ws_cons] | rw [wP_one] | rw [wP_more] | rw [wA_nil] | rw [wA_cons] | rw [wo_no] | rw [wo_yes] | rw [w_late] | rw [w_peek] | rw [w_arg] | rw [w_frz] | rw [w_intR] | rw [wCall_some] | rw [wLate_n] | rw [wLate_v] | rw [wPeek_n] | rw [wPeek_v] | rw [wArg_n] | rw [wArg_v] | rw [wr_seq] | rw [wr_enum] | rw [wr_rng] | rw [wr_rng2] | rw [wOpen_v] | rw [wOpen_n] | rw [w_open] | rw [wx_for] | rw [w_turn] | rw [we_comp] | rw [w_bodyC] | rw [wp_opt] | rw [wp_bind] | (simp only [wp_ok, wO_some, wI_int, wB_t, wB_f, wF_nx, wF_rt, wF_bk, wF_ct, wV_sh, wV_lst, wL_lst, get_zero, get_succ, set_zero, set_succ, gv_zero, gv_succ, pv_sh, pv_lst, own_sh, own_lst, isV_var, truth_bl, truth_int, c_lt, c_le, c_gt, c_ge, c_eq, c_ne, o_add, o_sub, len_lst, len_tup, Bool.false_and, Bool.true_and, Bool.and_false, Bool.and_true, isV, tk_v, tk_n, tk_0, tk_1, pu_v, pu_n, pu_0, pu_1, Option.map_some, List.length_cons, List.length_nil, List.contains_cons, List.contains_nil, Bool.or_false, Bool.not_false, Bool.not_true, decide_true, decide_false, Nat.zero_add, Nat.reduceAdd, Nat.reduceLT, Nat.reduceBEq, lockCs_n, lockO_n, unlock_n, lockCs_s, lockO_s, unlock_s, slots_v, slots_t, slots_n, slots_c, asg_t, asgs_n, asgs_c, asg_v', List.singleton_append, List.append_nil, List.all_cons, List.all_nil, Option.bind_some, Bool.false_eq_true, if_false, if_true]))
  exact ⟨trivial, rfl⟩
end PF.K51
set_option Elab.async false
set_option linter.all false
set_option maxRecDepth 1000000
set_option maxHeartbeats 4000000
namespace PF.K51
open PySem PySem.Spec PyProof.Rows PF
theorem rng4 : rngOk 0 4 = true := rfl
theorem law_for (n : Nat) (ns : List Int) (i q d : Int) (h : PoolOk i q d) (sc t x4 x5 x6 x7 : OV) : Wp (ex (Γ (n + 6)) [] (.for_ (.v 2) (.rng (.int 4)) lBody) [sc, Pool ns i q d, t, .emp, x4, x5, x6, x7]) fun f s => f = .nx ∧ LawS ns sc s := by
  rw [wx_for]
  repeat (first | rw [wx_cons] | rw [wx_nil] | rw [wx_ifs] | rw [wx_set] | rw [wx_setT] | rw [w_asgF] | rw [wx_ret] | rw [wx_retN] | rw [wx_app] | rw [wx_setIx] | rw [w_setIxR] | rw [wx_aug] | rw [wx_augIx] | rw [wx_expr] | rw [wx_par2] | rw [wx_par3] | rw [w_setV] | rw [wx_pass] | rw [wx_brk] | rw [wx_cont] | rw [wt_and] | rw [wt_or] | rw [wt_not] | rw [wt_var] | rw [wt_cmp] | rw [wt_chn] | rw [wt_isN] | rw [wt_inn] | rw [wt_call] | rw [wt_bi] | rw [wt_ix] | rw [wt_isi] | rw [we_int] | rw [we_bl] | rw [we_non] | rw [we_str] | rw [we_var] | rw [we_glb] | rw [we_tup] | rw [we_lst] | rw [we_bin] | rw [we_neg] | rw [we_cmp] | rw [we_isN] | rw [we_inn] | rw [we_not] | rw [we_and] | rw [we_or] | rw [we_ite] | rw [we_ix] | rw [we_sl] | rw [we_rev] | rw [we_call] | rw [we_bi] | rw [we_isi] | rw [ws_nil] | rw [ws_cons] | rw [wP_one] | rw [wP_more] | rw [wA_nil] | rw [wA_cons] | rw [wo_no] | rw [wo_yes] | rw [w_late] | rw [w_peek] | rw [w_arg] | rw [w_frz] | rw [w_intR] | rw [wCall_some] | rw [wLate_n] | rw [wLate_v] | rw [wPeek_n] | rw [wPeek_v] | rw [wArg_n] | rw [wArg_v] | rw [wr_seq] | rw [wr_enum] | rw [wr_rng] | rw [wr_rng2] | rw [wOpen_v] | rw [wOpen_n] | rw [w_open] | rw [wx_for] | rw [w_turn] | rw [we_comp] | rw [w_bodyC] | rw [wp_opt] | rw [wp_bind] | (simp only [wp_ok, wO_some, wI_int, wB_t, wB_f, wF_nx, wF_rt, wF_bk, wF_ct, wV_sh, wV_lst, wL_lst, get_zero, get_succ, set_zero, set_succ, gv_zero, gv_succ, pv_sh, pv_lst, own_sh, own_lst, isV_var, truth_bl, truth_int, c_lt, c_le, c_gt, c_ge, c_eq, c_ne, o_add, o_sub, len_lst, len_tup, Bool.false_and, Bool.true_and, Bool.and_false, Bool.and_true, isV, tk_v, tk_n, tk_0, tk_1, pu_v, pu_n, pu_0, pu_1, Option.map_some, List.length_cons, List.length_nil, List.contains_cons, List.contains_nil, Bool.or_false, Bool.not_false, Bool.not_true, decide_true, decide_false, Nat.zero_add, Nat.reduceAdd, Nat.reduceLT, Nat.reduceBEq, lockCs_n, lockO_n, unlock_n, lockCs_s, lockO_s, unlock_s, slots_v, slots_t, slots_n, slots_c, asg_t, asgs_n, asgs_c, asg_v', List.singleton_append, List.append_nil, List.all_cons, List.all_nil, Option.bind_some, Bool.false_eq_true, if_false, if_true, rng4]))
  refine wp_forL (fun _ s => LawS ns sc s) ⟨i, q, d, t, x4, x5, x6, x7, rfl, h⟩ (fun s hs => ⟨rfl, hs⟩) fun k x s hx hs => ?_
  obtain ⟨i, q, d, t, x4, x5, x6, x7, e, h⟩ := hs
  subst e
  rw [w_turn]
  simp only [unlock_n, lockCs_n, lockO_n, slots_v, List.all_cons, List.all_nil, List.contains_nil, Bool.not_false, Bool.and_true, wB_t, asg_v', List.length_cons, List.length_nil, Nat.zero_add, Nat.reduceAdd, Nat.reduceLT, if_true, wO_some, set_succ, set_zero]
  refine wp_imp (law_body n ns i q d h sc _ x4 x5 x6 x7) fun f s ⟨e, hs⟩ => ?_
  subst e
  exact hs
theorem the_law (ns : List Int) (h : ns.length ≤ 63) (hb : ∀ z, z ∈ ns → Builtin.Int.intBits z ≤ 1048576) : ∃ outs, callD (P.map Dn.fn) (glV gl) 10 lawIx [.sh (.frz (ns.map PV.int))] = .ok (.sh (.bl true)) outs := by
  have z : Wp (c 10 13 [.sh (.frz (ns.map PV.int))]) fun v o => v = .sh (.bl true) := by
    rw [c_succ 9 13 f_law rfl]
    refine run_ret (pad := [.sh (.frz (ns.map PV.int)), .emp, .emp, .emp, .emp, .emp, .emp, .emp]) rfl rfl ?_
    show Wp (exs (Γ 9) [] f_law.body _) _
    rw [law_shape]
    refine seq2 (pool0 ns _ _ _ _ _ _ _ rfl 9) fun s e => ?_
    subst e
    refine seq2 (law_for 3 ns 0 0 1 ⟨by decide, by decide, by decide, by decide⟩ _ _ _ _ _ _) fun s hs => ?_
    obtain ⟨i, q, d, t, x4, x5, x6, x7, e, h⟩ := hs
    subst e
    refine seq2 (long_gen 9 _ _ _ _ _ _ mulT mulL mulC add1 add2 add3 _ _ _ _ _ _ _) fun s e => ?_
    subst e
    rw [wx_cons]
    refine wp_imp (ret_gen 9 F3 _ mulA (size1 3) (size2 3) _ _ _ _ _ _ _) fun f s e => ?_
    subst e
    rw [wF_rt]
  obtain ⟨v, o, e, hv⟩ := wp_exists z
  subst hv
  exact ⟨o, e⟩
end PF.K51
set_option Elab.async false
set_option linter.all false
set_option maxRecDepth 100000
set_option maxHeartbeats 4000000
noncomputable section
namespace PF.K51
open PySem PySem.Spec PyProof.Rows PF
abbrev dl : Dn := P.getD lawIx ⟨[], .Pass ⟨0, 0, 0, 0⟩, ⟨[], 0, [], .nil⟩⟩
theorem bind_all_ : ∀ (i : Nat) (d : Dn), P[i]? = some d → BindOk d := by
  intro i d h
  have h := List.mem_of_getElem? h
  simp only [P, List.mem_cons, List.not_mem_nil, or_false] at h
  rcases h with rfl | rfl | rfl | rfl | rfl | rfl | rfl | rfl | rfl | rfl | rfl | rfl | rfl | rfl
  all_goals (intro x qual body scope kV doc pm an cdv ct us hl)
  all_goals first
    | (rcases us with _ | ⟨u1, _ | ⟨u2, us⟩⟩ <;> first | (cases hl; done) | rfl)
    | (rcases us with _ | ⟨u1, _ | ⟨u2, _ | ⟨u3, us⟩⟩⟩ <;> first | (cases hl; done) | rfl)
    | (rcases us with _ | ⟨u1, _ | ⟨u2, _ | ⟨u3, _ | ⟨u4, us⟩⟩⟩⟩ <;> first | (cases hl; done) | rfl)
theorem chk_all : P.all (fun d => defOk (gnP P gl) d) = true := by kernel_rfl
abbrev R : PySem.W.OpenRow := PySem.W.OpenLaw.row PySem.Challenge.rw_pictureframes_k51_running_sizes
abbrev hk : PySem.W.Hook := hookP 5 P gl
def ob (s : PySem.W.SharedT) : AlP := obsPG 5 P gl (HandSHeadRun.getT s)
theorem ob_eq (s : PySem.W.SharedT) : ob s = hk.obs s.abs := obsPG_eq (HandSHeadRun.getT_eq s)
theorem run_ (w : World) : HandSHeadRun.RunEq R (PySem.W.view R.prog [22]) hk ob 4000 ["PictureError", "InvalidSequence", "SIDES", "is_integer", "is_count", "is_side", "MAX_STEPS", "is_step", "check_steps", "running_size", "_law_draw", "_law_base", "_law_steps", "_law_after", "_law_run", "_law_cells", "_law_runs"] w := by
  intro os
  kernel_rfl
theorem P_ok (i : Nat) (d : Dn) (h : P[i]? = some d) : defOk (gnP P gl) d = true ∧ BindOk d := ⟨List.all_eq_true.mp chk_all d (List.mem_of_getElem? h), bind_all_ i d h⟩
end PF.K51
end
open PySem PySem.W PySem.Calls PyProof.Rows
theorem PySem.Challenge.cw_pictureframes_k51_running_sizes_holds : PySem.Challenge.rw_pictureframes_k51_running_sizes.Holds := by
  w_on; o_law
  refine HandSHeadRun.head_any (r := OpenLaw.row PySem.Challenge.rw_pictureframes_k51_running_sizes) (q := view (OpenLaw.row PySem.Challenge.rw_pictureframes_k51_running_sizes).prog [22]) (H := PF.K51.hk) (ob := PF.K51.ob) (M := 4000)
    (loose := ["PictureError", "InvalidSequence", "SIDES", "is_integer", "is_count", "is_side", "MAX_STEPS", "is_step", "check_steps", "running_size", "_law_draw", "_law_base", "_law_steps", "_law_after", "_law_run", "_law_cells", "_law_runs"])
    (d := HandSHeadRun.topDef (OpenLaw.row PySem.Challenge.rw_pictureframes_k51_running_sizes).prog 22) (kwd := []) PF.K51.ob_eq
    (by kernel_rfl) (fun s => by kernel_rfl) PF.K51.run_ (by kernel_rfl) (by kernel_rfl) (by kernel_rfl) (by rfl) (by first | assumption | decide +kernel) (by decide +kernel) ⟨rfl, rfl, rfl, rfl, rfl, by decide +kernel⟩ ?hw ?hc
  case hw => w_witness2
  case hc =>
    refine LamX.walk_ofTsE (l := PySem.Challenge.rw_pictureframes_k51_running_sizes) (n := 63) (k := 10) (x := "script") (CX := fun w => L2.CX PySem.Challenge.pw_pictureframes_k51_running_sizes w) rfl (by decide) (by kernel_rfl) ⟨rfl, by decide, by decide⟩ ?F (fun w => PF.cx_no)
    intro w mg fa h Y G hmg0
    obtain ⟨K, KX, c⟩ := Y
    have e : (HandSHeadRun.topDef (OpenLaw.row PySem.Challenge.rw_pictureframes_k51_running_sizes).prog 22).name = PF.mkS PF.K51.dl.nm := by kernel_rfl
    have hmg := e ▸ hmg0
    exact ⟨K, KX, PF.law_at (l := PySem.Challenge.rw_pictureframes_k51_running_sizes) (li := PF.K51.lawIx) KX G c PF.K51.P_ok (d := PF.K51.dl) rfl rfl rfl hmg PF.K51.the_law⟩
