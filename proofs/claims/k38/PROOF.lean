import PyProof.Rows.All
import Wide.All
import OpenK.AllK
import Wide.FinOn
import HandS.ForMost
import HandS.Wide
import HandS.ForExc
import HandS.Lambda
import HandS.EndTab
import HandS.TupAny
import HandS.Deep
import HandS.NoneIn
import HandS.IsInst
import HandS.WideBits
import HandS.Conv
import HandS.Dict
import KE.KExcSuper
import HandS.ExcInit
import HandS.ExcIs
import HandS.ExcField
import KE.KExcIs
import PyProof.ExcReprCall
import PyProof.ReprRoads
import PyProof.ExcStrAll.ValueError
import HandS.Ends
import HandS.HeadHook1
import HandS.Head0
import HandS.Head1
import HandS.Head2
import HandS.HeadWalk
import HandS.HeadEnd
import PySem.Challenge.RW_elbowsexactly_k38_errors_each_its_own
set_option Elab.async false
set_option linter.all false
set_option maxRecDepth 100000
/-! Ev1: values as trees, a small heap of lists, an IR of a part of Python, its evaluator. -/
namespace EV
open PySem L2

/-- a value: tuples are trees; a list is a place in the small heap -/
inductive PV where
  | non | bl (b : Bool) | int (i : Int) | str (s : Str) | tup (xs : List PV) | ref (n : Nat) | exc (b : Bool) (c : Nat) (v : PV) | clo (k : Nat) (xs : List PV)
instance : Inhabited PV := ⟨.non⟩
/-- what stands at a place: a list (fz: it is not ours to write), an empty dict, what is forgotten -/
inductive HV where
  | lst (fz : Bool) (xs : List PV) | dct0 | dead
instance : Inhabited HV := ⟨.dead⟩
abbrev Hh := List HV
abbrev En := List (Option PV)
inductive Rz (α : Type) where
  | ok (a : α) (h : Hh) | ex (c : Nat) (v : PV) (h : Hh) | err
def Rz.bnd {α β : Type} (r : Rz α) (f : α → Hh → Rz β) : Rz β := match r with
  | .ok a h => f a h
  | .ex c v h => .ex c v h
  | .err => .err
/-- where a for goes: over a tuple's items, over what stands at a place, over ints -/
inductive It where
  | fix (xs : List PV) | ref (n : Nat) | rng (lo : Int) (n : Nat)
/-- no error may leave -/
def Rz.nox {α : Type} : Rz α → Rz α
  | .ok a h => .ok a h
  | _ => .err
inductive Fl where
  | nx (ρ : En) | rt (v : PV) | bk (ρ : En) | ct (ρ : En)
inductive Ty where
  | int | bool | str | tuple | list | verr
  deriving DecidableEq

/-! ### values -/
mutual
def PV.beq : PV → PV → Bool
  | .non, .non => true
  | .bl a, .bl b => a == b
  | .int a, .int b => a == b
  | .str a, .str b => a == b
  | .tup a, .tup b => PV.beqs a b
  | .ref a, .ref b => a == b
  | .exc p c a, .exc q d b => p == q && (c == d && PV.beq a b)
  | .clo c a, .clo d b => c == d && PV.beqs a b
  | _, _ => false
termination_by structural x => x
def PV.beqs : List PV → List PV → Bool
  | [], [] => true
  | a :: r, b :: s => PV.beq a b && PV.beqs r s
  | _, _ => false
termination_by structural x => x
end
mutual
/-- no place of the heap is named in it, no closure -/
def PV.pure : PV → Bool
  | .ref _ => false
  | .clo _ _ => false
  | .tup xs => PV.pures xs
  | .exc _ _ v => PV.pure v
  | _ => true
termination_by structural x => x
def PV.pures : List PV → Bool
  | [] => true
  | x :: xs => PV.pure x && PV.pures xs
termination_by structural x => x
end
mutual
def PV.noClo : PV → Bool
  | .clo _ _ => false
  | .tup xs => PV.noClos xs
  | .exc _ _ v => PV.noClo v
  | _ => true
termination_by structural x => x
def PV.noClos : List PV → Bool
  | [] => true
  | x :: xs => PV.noClo x && PV.noClos xs
termination_by structural x => x
end
mutual
/-- the places named in it -/
def PV.refs : PV → List Nat
  | .ref n => [n]
  | .tup xs => PV.refss xs
  | .exc _ _ v => PV.refs v
  | .clo _ xs => PV.refss xs
  | _ => []
termination_by structural x => x
def PV.refss : List PV → List Nat
  | [] => []
  | x :: xs => PV.refs x ++ PV.refss xs
termination_by structural x => x
end
/-- where a number stands -/
def posOf (r : Nat) : List Nat → Nat → Option Nat
  | [], _ => none
  | x :: xs, k => if x == r then some k else posOf r xs (k + 1)
mutual
/-- its places named by where they stand in m -/
def PV.ren (m : List Nat) : PV → Option PV
  | .ref n => match posOf n m 0 with
    | some k => some (.ref k)
    | none => none
  | .tup xs => match PV.rens m xs with
    | some ys => some (.tup ys)
    | none => none
  | .exc b c v => match PV.ren m v with
    | some w => some (.exc b c w)
    | none => none
  | .clo _ _ => none
  | .non => some .non
  | .bl b => some (.bl b)
  | .int i => some (.int i)
  | .str s => some (.str s)
termination_by structural x => x
def PV.rens (m : List Nat) : List PV → Option (List PV)
  | [] => some []
  | x :: xs => match PV.ren m x, PV.rens m xs with
    | some y, some ys => some (y :: ys)
    | _, _ => none
termination_by structural x => x
end
/-- .. and back; what is new stands from L on -/
def bakN (m : List Nat) (L i : Nat) : Nat := match m[i]? with
  | some n => n
  | none => L + (i - m.length)
mutual
def PV.bak (m : List Nat) (L : Nat) : PV → PV
  | .ref i => .ref (bakN m L i)
  | .tup xs => .tup (PV.baks m L xs)
  | .exc b c v => .exc b c (PV.bak m L v)
  | .clo c xs => .clo c (PV.baks m L xs)
  | .non => .non
  | .bl b => .bl b
  | .int i => .int i
  | .str s => .str s
termination_by structural x => x
def PV.baks (m : List Nat) (L : Nat) : List PV → List PV
  | [] => []
  | x :: xs => PV.bak m L x :: PV.baks m L xs
termination_by structural x => x
end
def HV.ren (m : List Nat) : HV → Option HV
  | .lst f xs => match PV.rens m xs with
    | some ys => some (.lst f ys)
    | none => none
  | .dct0 => some .dct0
  | .dead => none
def HV.bak (m : List Nat) (L : Nat) : HV → HV
  | .lst f xs => .lst f (PV.baks m L xs)
  | .dct0 => .dct0
  | .dead => .dead
/-- what can be come to -/
def reachF (h : Hh) : Nat → List Nat → List Nat → Option (List Nat)
  | 0, _, _ => none
  | _ + 1, [], seen => some seen
  | n + 1, r :: todo, seen => if seen.contains r then reachF h n todo seen else match h[r]? with
    | some (.lst _ xs) => reachF h n (todo ++ PV.refss xs) (seen ++ [r])
    | some .dct0 => reachF h n todo (seen ++ [r])
    | _ => none
def nodupB : List Nat → Bool
  | [] => true
  | x :: xs => !xs.contains x && nodupB xs
def renH (m : List Nat) (h : Hh) : List Nat → Option Hh
  | [] => some []
  | r :: rs => match h[r]? with
    | some o => match HV.ren m o, renH m h rs with
      | some u, some us => some (u :: us)
      | _, _ => none
    | none => none
/-- a heap of its own for what some values name -/
def grab (h : Hh) (args : List PV) : Option (List Nat × List PV × Hh) := match reachF h 4000 (PV.refss args) [] with
  | some m => if nodupB m = true then match PV.rens m args, renH m h m with
      | some as, some h0 => some (m, as, h0)
      | _, _ => none
    else none
  | none => none
/-- the heap of its own written back -/
def wrt (m : List Nat) (L : Nat) : List Nat → Hh → Hh → Hh
  | r :: rs, o :: os, h => wrt m L rs os (h.set r (o.bak m L))
  | [], os, h => h ++ os.map (HV.bak m L)
  | _ :: _, [], h => h
def It.noClo : It → Bool
  | .fix xs => PV.noClos xs
  | _ => true
def HV.noClo : HV → Bool
  | .lst _ xs => PV.noClos xs
  | _ => true
/-- all that knows a closure forgotten -/
def killH (h : Hh) : Hh := h.map fun o => if o.noClo then o else .dead
def killE (ρ : En) : En := ρ.map fun o => match o with
  | some v => if v.noClo then some v else none
  | none => none
def getL (h : Hh) (n : Nat) : Option (List PV) := match h[n]? with
  | some (.lst _ xs) => some xs
  | _ => none
mutual
/-- a value as data; lists are read where they stand (at most k deep) -/
def PV.data (h : Nat → Option PyData) : PV → Option PyData
  | .non => some .none
  | .bl b => some (.bool b)
  | .int i => some (.int i)
  | .str s => some (.str s)
  | .tup xs => match PV.datas h xs with
    | some ds => some (.tuple ds)
    | none => none
  | .ref n => h n
  | _ => none
termination_by structural x => x
def PV.datas (h : Nat → Option PyData) : List PV → Option (List PyData)
  | [] => some []
  | x :: xs => match PV.data h x, PV.datas h xs with
    | some d, some ds => some (d :: ds)
    | _, _ => none
termination_by structural x => x
end
/-- the data at a place, lists within lists so deep -/
def dataAt (h : Hh) : Nat → Nat → Option PyData
  | 0, _ => none
  | k + 1, n => match h[n]? with
    | some (.lst _ xs) => match PV.datas (dataAt h k) xs with
      | some ds => some (.list ds)
      | none => none
    | some .dct0 => some (.dict [])
    | _ => none
def dataOf (h : Hh) (v : PV) : Option PyData := PV.data (dataAt h 6) v

/-! ### operators -/
def b2 (b : Bool) : Int := if b = true then 1 else 0
def MulOk (i j : Int) : Prop := i.natAbs.log2 + j.natAbs.log2 < 1000000
instance (i j : Int) : Decidable (MulOk i j) := by unfold MulOk; infer_instance
def DivOk (j : Int) : Prop := j ≠ 0 ∧ j.natAbs.log2 < 9000
instance (j : Int) : Decidable (DivOk j) := by unfold DivOk; infer_instance
def PowOk (i j : Int) : Prop := 0 ≤ j ∧ (i.natAbs.log2 + 1) * j.toNat ≤ 134217728
instance (i j : Int) : Decidable (PowOk i j) := by unfold PowOk; infer_instance
def newL (xs : List PV) (h : Hh) : Rz PV := .ok (.ref h.length) (h ++ [.lst false xs])
def isFl (h : Hh) (n : Nat) : Option (List PV) := match h[n]? with
  | some (.lst false xs) => some xs
  | _ => none
def binV (op : Operator) (x y : PV) (h : Hh) : Rz PV := match op, x, y with
  | .Add, .int i, .int j => .ok (.int (i + j)) h
  | .Sub, .int i, .int j => .ok (.int (i - j)) h
  | .Mult, .int i, .int j => if MulOk i j then .ok (.int (i * j)) h else .err
  | .FloorDiv, .int i, .int j => if DivOk j then .ok (.int (i.fdiv j)) h else .err
  | .Mod, .int i, .int j => if j ≠ 0 then .ok (.int (i.fmod j)) h else .err
  | .Pow, .int i, .int j => if PowOk i j then .ok (.int (i ^ j.toNat)) h else .err
  | .LShift, .int i, .int j => if 0 ≤ j ∧ j ≤ 1000000 ∧ i.natAbs < 2 ^ 64 then .ok (.int (i * 2 ^ j.toNat)) h else .err
  | .Sub, .bl p, .bl q => .ok (.int (b2 p - b2 q)) h
  | .Add, .tup xs, .tup ys => if xs.length + ys.length ≤ sizeLine then .ok (.tup (xs ++ ys)) h else .err
  | .Add, .ref n, .ref m => match isFl h n, isFl h m with
    | some xs, some ys => if xs.length + ys.length ≤ sizeLine then newL (xs ++ ys) h else .err
    | _, _ => .err
  | .Mult, .ref n, .int k => match isFl h n with
    | some xs => if 0 ≤ k ∧ k < 1000 ∧ xs.length * k.toNat ≤ sizeLine then newL (List.replicate k.toNat xs).flatten h else .err
    | none => .err
  | _, _, _ => .err
mutual
/-- values that are compared as they stand -/
def PV.plain : PV → Bool
  | .non => true
  | .bl _ => true
  | .int _ => true
  | .str _ => true
  | .tup xs => PV.plains xs
  | _ => false
termination_by structural x => x
def PV.plains : List PV → Bool
  | [] => true
  | x :: xs => PV.plain x && PV.plains xs
termination_by structural x => x
end
/-- flat things that == tells apart as such -/
def flatP : PV → Bool
  | .int _ => true
  | .str _ => true
  | _ => false
def eqF : PV → PV → Bool
  | .int i, .int j => i == j
  | .str x, .str y => x == y
  | _, _ => false
/-- == of two values, as data -/
def eqD (h : Hh) (x y : PV) : Option Bool := match dataOf h x, dataOf h y with
  | some d, some e => if SeqAt.shaped d && SeqAt.shaped e then some (PyData.eqv d e) else none
  | _, _ => none
def isNon : PV → Bool
  | .non => true
  | _ => false
def cmpV (op : CmpOp) (x y : PV) (h : Hh) : Rz PV := match op, x, y with
  | .Lt, .int i, .int j => .ok (.bl (decide (i < j))) h
  | .LtE, .int i, .int j => .ok (.bl (decide (i ≤ j))) h
  | .Gt, .int i, .int j => .ok (.bl (decide (j < i))) h
  | .GtE, .int i, .int j => .ok (.bl (decide (j ≤ i))) h
  | .Is, v, .non => .ok (.bl (isNon v)) h
  | .IsNot, v, .non => .ok (.bl (!isNon v)) h
  | .Eq, .int i, .int j => .ok (.bl (decide (i = j))) h
  | .NotEq, .int i, .int j => .ok (.bl (!decide (i = j))) h
  | .Eq, .str i, .str j => .ok (.bl (decide (i = j))) h
  | .NotEq, .str i, .str j => .ok (.bl (!decide (i = j))) h
  | .Eq, .bl i, .bl j => .ok (.bl (decide (i = j))) h
  | .NotEq, .bl i, .bl j => .ok (.bl (!decide (i = j))) h
  | .Eq, v, w => match eqD h v w with
    | some b => .ok (.bl b) h
    | none => .err
  | .NotEq, v, w => match eqD h v w with
    | some b => .ok (.bl (!b)) h
    | none => .err
  | .In, v, .tup xs => if flatP v && xs.all flatP then .ok (.bl (xs.any fun y => eqF y v)) h else .err
  | .NotIn, v, .tup xs => if flatP v && xs.all flatP then .ok (.bl (!(xs.any fun y => eqF y v))) h else .err
  | _, _, _ => .err
def idxV (x y : PV) (h : Hh) : Rz PV := match x, y with
  | .tup xs, .int i => match atI xs i with
    | some v => .ok v h
    | none => .err
  | .ref n, .int i => match getL h n with
    | some xs => match atI xs i with
      | some v => .ok v h
      | none => .err
    | none => .err
  | _, _ => .err
def cutP (xs : List PV) (lo hi : Option Int) : List PV := (xs.drop (HT.sIx xs.length 0 lo)).take (HT.sIx xs.length xs.length hi - HT.sIx xs.length 0 lo)
def slcV (x : PV) (lo hi : Option Int) (h : Hh) : Rz PV := match x with
  | .tup xs => .ok (.tup (cutP xs lo hi)) h
  | .ref n => match getL h n with
    | some xs => newL (cutP xs lo hi) h
    | none => .err
  | _ => .err
def truV (x : PV) (h : Hh) : Rz Bool := match x with
  | .non => .ok false h
  | .bl b => .ok b h
  | .int i => .ok (i != 0) h
  | .tup xs => .ok (!xs.isEmpty) h
  | .ref n => match getL h n with
    | some xs => .ok (!xs.isEmpty) h
    | none => .err
  | _ => .err
def lenV (x : PV) (h : Hh) : Rz PV := match x with
  | .tup xs => .ok (.int xs.length) h
  | .ref n => match getL h n with
    | some xs => .ok (.int xs.length) h
    | none => .err
  | _ => .err
def isV (ty : Ty) (x : PV) (h : Hh) : Option Bool := match x with
  | .non => some false
  | .bl _ => some (ty == .int || ty == .bool)
  | .int _ => some (ty == .int)
  | .str _ => some (ty == .str)
  | .tup _ => some (ty == .tuple)
  | .ref n => match h[n]? with
    | some (.lst _ _) => some (ty == .list)
    | some .dct0 => some false
    | _ => none
  | .exc _ _ _ => if ty = .verr then some true else none
  | _ => none
def intsP : List PV → Option (List Int)
  | [] => some []
  | .int i :: r => match intsP r with
    | some l => some (i :: l)
    | none => none
  | _ => none
def blsP : List PV → Option (List Bool)
  | [] => some []
  | .bl b :: r => match blsP r with
    | some l => some (b :: l)
    | none => none
  | _ => none

/-! ### the IR -/
inductive BI where
  | len | int | abs | sum | all | any | list | tuple | lrng | repr | max2 | min2 | bitl
  deriving DecidableEq
inductive T where
  | var (i : Nat) | cst (c : PV) | glb (g : Nat) | tup (es : T) | lst (es : T) | dct0
  | bin (op : Operator) (a b : T) | neg (a : T) | nt (a : T) | an (a b : T) | oo (a b : T)
  | cmp (op : CmpOp) (a b : T) | chn (op op' : CmpOp) (a b c : T) | ife (c a b : T)
  | idx (a i : T) | slc (a lo hi : T) | rvs (a : T) | none
  | call (f : Nat) (args : T) | callk (f : Nat) (args kws : T) (perm : List Nat) | blt (b : BI) (args : T)
  | isi (ty : Ty) (a : T) | isx (c : Nat) (a : T) | clov (i : Nat) (args : T) | exn (c : Nat) (a : T) | attr (a : T)
  | lc (own : List Nat) (tg it tst el : T) | lam (k : Nat)
  | nil | cons (e r : T) | star (e r : T)
  | asg (tg e : T) | aug (i : Nat) (op : Operator) (e : T) | iff (c a b : T) | whl (c b : T) | fo (tg it b : T)
  | ret (e : T) | retn | xpr (e : T) | app (l e : T) | ext (l e : T) | rse (c : Nat) (e : T) | brk | cnt | pas | doc
  | try1 (i j k c : Nat) (e : T)
  | kil (i : Nat) | rpx (a : T) | lrg (a : T)
  | tn (i : Nat) | tt (ts : T) | tsub (o i : T) | rng1 (a : T) | rng2 (a b : T)

/-- how many items a list of parts has -/
def T.len : T → Nat
  | .cons _ r => r.len + 1
  | .star _ r => r.len + 1
  | _ => 0
/-- the slots that a target writes -/
def T.wr : T → List Nat
  | .tn i => [i]
  | .tt ts => ts.wr
  | .cons a b => a.wr ++ b.wr
  | _ => []
structure Cfg where
  call : Nat → List PV → Hh → Rz PV
  clo : Nat → List PV → List PV → Hh → Rz PV
  glob : List PV
  /-- of each lambda the slots that it captures -/
  caps : List (List Nat)
  /-- which error class is below which -/
  sub : Nat → Nat → Bool
  /-- the classes' names -/
  cnm : Nat → Str
  wf : Nat
  /-- a lambda is made here; slots that lambdas capture -/
  flag : Bool
  capd : List Nat

structure Ev where
  e : En → Hh → Rz PV
  t : En → Hh → Rz Bool
  a : En → Hh → Rz (List PV)
  s : En → Hh → Rz Fl
  g : PV → En → Hh → Rz En
  gs : List PV → En → Hh → Rz En
  i : En → Hh → Rz It
  o : En → Hh → Rz (Option Int)

def Ev.no : Ev := ⟨fun _ _ => .err, fun _ _ => .err, fun _ _ => .err, fun _ _ => .err, fun _ _ _ => .err, fun _ _ _ => .err, fun _ _ => .err, fun _ _ => .err⟩
/-- an expression's roles, by its value -/
def Ev.ofE (f : En → Hh → Rz PV) : Ev := { Ev.no with
  e := f
  t := fun ρ h => (f ρ h).bnd truV
  i := fun ρ h => (f ρ h).bnd fun v h => match v with
    | .tup xs => .ok (.fix xs) h
    | .ref n => match getL h n with
      | some _ => .ok (.ref n) h
      | none => .err
    | _ => .err
  o := fun ρ h => (f ρ h).bnd fun v h => match v with
    | .int i => .ok (some i) h
    | _ => .err }
def Ev.ofT (f : En → Hh → Rz PV) (t : En → Hh → Rz Bool) : Ev := { Ev.ofE f with t := t }
def Ev.ofS (f : En → Hh → Rz Fl) : Ev := { Ev.no with s := f }

def whileL (c : En → Hh → Rz Bool) (b : En → Hh → Rz Fl) : Nat → En → Hh → Rz Fl
  | 0, _, _ => .err
  | n + 1, ρ, h => (c ρ h).bnd fun k h => match k with
    | false => .ok (.nx ρ) h
    | true => (b ρ h).bnd fun f h => match f with
      | .nx ρ => whileL c b n ρ h
      | .ct ρ => whileL c b n ρ h
      | .bk ρ => .ok (.nx ρ) h
      | .rt v => .ok (.rt v) h
/-- the item at a turn, if there is one -/
def itemAt (it : It) (k : Nat) (h : Hh) : Option (Option PV) := match it with
  | .fix xs => some xs[k]?
  | .ref n => match getL h n with
    | some xs => some xs[k]?
    | none => none
  | .rng lo n => some (if k < n then some (.int (lo + k)) else none)
def forL (g : PV → En → Hh → Rz En) (b : En → Hh → Rz Fl) (it : It) : Nat → Nat → En → Hh → Rz Fl
  | 0, _, _, _ => .err
  | m + 1, k, ρ, h => match itemAt it k h with
    | none => .err
    | some none => .ok (.nx ρ) h
    | some (some v) => (g v ρ h).bnd fun ρ h => (b ρ h).bnd fun f h => match f with
      | .nx ρ => forL g b it m (k + 1) ρ h
      | .ct ρ => forL g b it m (k + 1) ρ h
      | .bk ρ => .ok (.nx ρ) h
      | .rt v => .ok (.rt v) h
def wipeE (ρ : En) : List Nat → En
  | [] => ρ
  | v :: vs => (wipeE ρ vs).set v none
/-- a comprehension: the list that grows stands at D; each turn begins with the slots ρ0 -/
def compL (g : PV → En → Hh → Rz En) (t : En → Hh → Rz Bool) (el : En → Hh → Rz PV) (it : It) (ρ0 : En) (D : Nat) : Nat → Nat → Hh → Rz PV
  | 0, _, _ => .err
  | m + 1, k, h => match itemAt it k h with
    | none => .err
    | some none => .ok (.ref D) h
    | some (some v) => (g v ρ0 h).bnd fun ρ h => (t ρ h).bnd fun b h => match b with
      | false => compL g t el it ρ0 D m (k + 1) h
      | true => (el ρ h).bnd fun y h => match isFl h D with
        | some acc => if acc.length < sizeLine then compL g t el it ρ0 D m (k + 1) (h.set D (.lst false (acc ++ [y]))) else .err
        | none => .err
def capVals (ρ : En) : List Nat → Option (List PV)
  | [] => some []
  | i :: r => match ρ[i]?, capVals ρ r with
    | some (some v), some l => some (v :: l)
    | _, _ => none
def getAll (xs : List PV) : List Nat → Option (List PV)
  | [] => some []
  | i :: r => match xs[i]?, getAll xs r with
    | some v, some l => some (v :: l)
    | _, _ => none
def dictOk : PyData → Bool
  | .dict [] => true
  | d => !d.hasDict
def showOk (d : PyData) : Bool := dictOk d && d.showable && decide (d.shown.length ≤ sizeLine) && decide (d.depth ≤ 60)
def arg1 (f : PV → Rz PV) : List PV → Rz PV
  | [x] => f x
  | _ => .err
def arg2 (f : PV → PV → Rz PV) : List PV → Rz PV
  | [x, y] => f x y
  | _ => .err
def intV (x : PV) (h : Hh) : Rz PV := match x with
  | .int i => .ok (.int i) h
  | .bl k => .ok (.int (b2 k)) h
  | _ => .err
def absV (x : PV) (h : Hh) : Rz PV := match x with
  | .int i => .ok (.int (if i < 0 then -i else i)) h
  | _ => .err
def maxV (x y : PV) (h : Hh) : Rz PV := match x, y with
  | .int i, .int j => .ok (.int (if j > i then j else i)) h
  | _, _ => .err
def minV (x y : PV) (h : Hh) : Rz PV := match x, y with
  | .int i, .int j => .ok (.int (if j < i then j else i)) h
  | _, _ => .err
def lstV (h : Hh) (x : PV) : Option (List PV) := match x with
  | .ref n => getL h n
  | _ => none
def sumV (x : PV) (h : Hh) : Rz PV := match (lstV h x).bind intsP with
  | some l => .ok (.int l.sum) h
  | none => .err
def allV (x : PV) (h : Hh) : Rz PV := match (lstV h x).bind blsP with
  | some l => .ok (.bl (l.all id)) h
  | none => .err
def anyV (x : PV) (h : Hh) : Rz PV := match (lstV h x).bind blsP with
  | some l => .ok (.bl (l.any id)) h
  | none => .err
def mkLV (x : PV) (h : Hh) : Rz PV := match x with
  | .tup xs => newL xs h
  | .ref n => match getL h n with
    | some xs => newL xs h
    | none => .err
  | _ => .err
def mkTV (x : PV) (h : Hh) : Rz PV := match x with
  | .tup xs => .ok (.tup xs) h
  | .ref n => match getL h n with
    | some xs => .ok (.tup xs) h
    | none => .err
  | _ => .err
def lrngV (x : PV) (h : Hh) : Rz PV := match x with
  | .int i => if 0 ≤ i ∧ i ≤ 1000000 then newL ((List.range i.toNat).map fun (k : Nat) => PV.int (k : Int)) h else .err
  | _ => .err
def bitlV (x : PV) (h : Hh) : Rz PV := match x with
  | .int i => .ok (.int (Builtin.Int.intBits i : Nat)) h
  | _ => .err
def reprV (x : PV) (h : Hh) : Rz PV := match dataOf h x with
  | some d => if showOk d = true then .ok (.str (PyData.shown d)) h else .err
  | none => .err
def bltV (b : BI) (vs : List PV) (h : Hh) : Rz PV := match b with
  | .len => arg1 (fun x => lenV x h) vs
  | .int => arg1 (fun x => intV x h) vs
  | .abs => arg1 (fun x => absV x h) vs
  | .max2 => arg2 (fun x y => maxV x y h) vs
  | .min2 => arg2 (fun x y => minV x y h) vs
  | .sum => arg1 (fun x => sumV x h) vs
  | .all => arg1 (fun x => allV x h) vs
  | .any => arg1 (fun x => anyV x h) vs
  | .list => arg1 (fun x => mkLV x h) vs
  | .tuple => arg1 (fun x => mkTV x h) vs
  | .lrng => arg1 (fun x => lrngV x h) vs
  | .bitl => arg1 (fun x => bitlV x h) vs
  | .repr => arg1 (fun x => reprV x h) vs
def slot (ρ : En) (i : Nat) : Option PV := match ρ[i]? with
  | some (some v) => some v
  | _ => none
/-- a slot is written: where a lambda may have captured it, closures are forgotten -/
def putS (C : Cfg) (i : Nat) (v : PV) (ρ : En) (h : Hh) : Rz En :=
  if (C.flag && C.capd.contains i) = true then (if v.noClo = true then .ok ((killE ρ).set i (some v)) (killH h) else .err)
  else .ok (ρ.set i (some v)) h
/-- a return: where lambdas are made they are forgotten -/
def retS (C : Cfg) (v : PV) (h : Hh) : Rz Fl := if C.flag = true then (if v.noClo = true then .ok (.rt v) (killH h) else .err) else .ok (.rt v) h

def ev (C : Cfg) : T → Ev
  | .var i => .ofE fun ρ h => match slot ρ i with
    | some v => .ok v h
    | none => .err
  | .cst c => .ofE fun _ h => .ok c h
  | .glb g => .ofE fun _ h => match C.glob[g]? with
    | some v => .ok v h
    | none => .err
  | .tup es => .ofE fun ρ h => ((ev C es).a ρ h).bnd fun vs h => if vs.length ≤ sizeLine then .ok (.tup vs) h else .err
  | .lst es => .ofE fun ρ h => ((ev C es).a ρ h).bnd fun vs h => if vs.length ≤ sizeLine then newL vs h else .err
  | .dct0 => .ofE fun _ h => .ok (.ref h.length) (h ++ [.dct0])
  | .bin op a b => .ofE fun ρ h => ((ev C a).e ρ h).bnd fun x h => ((ev C b).e ρ h).bnd fun y h => binV op x y h
  | .neg a => .ofE fun ρ h => ((ev C a).e ρ h).bnd fun x h => match x with
    | .int i => .ok (.int (-i)) h
    | _ => .err
  | .nt a => .ofT (fun ρ h => ((ev C a).e ρ h).bnd fun x h => match x with
      | .bl b => .ok (.bl (!b)) h
      | _ => .err) (fun ρ h => ((ev C a).t ρ h).bnd fun b h => .ok (!b) h)
  | .an a b => .ofT (fun ρ h => ((ev C a).e ρ h).bnd fun x h => match x with
      | .bl true => (ev C b).e ρ h
      | .bl false => .ok (.bl false) h
      | _ => .err)
    (fun ρ h => ((ev C a).t ρ h).bnd fun x h => if x = true then (ev C b).t ρ h else .ok false h)
  | .oo a b => .ofT (fun ρ h => ((ev C a).e ρ h).bnd fun x h => match x with
      | .bl false => (ev C b).e ρ h
      | .bl true => .ok (.bl true) h
      | _ => .err)
    (fun ρ h => ((ev C a).t ρ h).bnd fun x h => if x = true then .ok true h else (ev C b).t ρ h)
  | .cmp op a b => .ofE fun ρ h => ((ev C a).e ρ h).bnd fun x h => ((ev C b).e ρ h).bnd fun y h => cmpV op x y h
  | .chn op op' a b c => .ofE fun ρ h => ((ev C a).e ρ h).bnd fun x h => ((ev C b).e ρ h).bnd fun y h => (cmpV op x y h).bnd fun k h => match k with
    | .bl true => ((ev C c).e ρ h).bnd fun z h => cmpV op' y z h
    | .bl false => .ok (.bl false) h
    | _ => .err
  | .ife c a b => .ofE fun ρ h => ((ev C c).t ρ h).bnd fun k h => if k = true then (ev C a).e ρ h else (ev C b).e ρ h
  | .idx a i => .ofE fun ρ h => ((ev C a).e ρ h).bnd fun x h => ((ev C i).e ρ h).bnd fun y h => idxV x y h
  | .slc a lo hi => .ofE fun ρ h => ((ev C a).e ρ h).bnd fun x h => ((ev C lo).o ρ h).bnd fun l h => ((ev C hi).o ρ h).bnd fun u h => slcV x l u h
  | .rvs a => .ofE fun ρ h => ((ev C a).e ρ h).bnd fun x h => match x with
    | .tup xs => .ok (.tup xs.reverse) h
    | .ref n => match getL h n with
      | some xs => newL xs.reverse h
      | none => .err
    | _ => .err
  | .none => { Ev.no with o := fun _ h => .ok none h }
  | .call f args => .ofE fun ρ h => ((ev C args).a ρ h).bnd fun vs h => C.call f vs h
  | .callk f args kws perm => .ofE fun ρ h => ((ev C args).a ρ h).bnd fun vs h => ((ev C kws).a ρ h).bnd fun ws h => match getAll (vs ++ ws) perm with
    | some us => C.call f us h
    | none => .err
  | .blt b args => .ofE fun ρ h => ((ev C args).a ρ h).bnd fun vs h => bltV b vs h
  | .isi ty a => .ofE fun ρ h => ((ev C a).e ρ h).bnd fun x h => match isV ty x h with
    | some b => .ok (.bl b) h
    | none => .err
  | .isx c a => .ofE fun ρ h => ((ev C a).e ρ h).bnd fun x h => match x with
    | .exc _ d _ => .ok (.bl (C.sub d c)) h
    | .non => .ok (.bl false) h
    | _ => .err
  | .clov i args => .ofE fun ρ h => match slot ρ i with
    | some (.clo k caps) => ((ev C args).a ρ h).bnd fun vs h => C.clo k caps vs h
    | _ => .err
  | .exn c a => .ofE fun ρ h => ((ev C a).e ρ h).bnd fun x h => .ok (.exc true c x) h
  | .attr a => .ofE fun ρ h => ((ev C a).e ρ h).bnd fun x h => match x with
    | .exc _ _ v => .ok v h
    | _ => .err
  | .lc own tg it tst el => .ofE fun ρ h => ((ev C it).i ρ h).bnd fun it h => if (!C.flag || it.noClo) = true then
      (compL (ev C tg).g (ev C tst).t (ev C el).e it (wipeE (if C.flag then killE ρ else ρ) own) h.length C.wf 0 ((if C.flag then killH h else h) ++ [.lst false []])).nox else .err
  | .lam k => .ofE fun ρ h => match C.caps[k]? with
    | some l => match capVals ρ l with
      | some vs => if PV.noClos vs then .ok (.clo k vs) h else .err
      | none => .err
    | none => .err
  | .nil => { Ev.no with
      a := fun _ h => .ok [] h
      s := fun ρ h => .ok (.nx ρ) h
      t := fun _ h => .ok true h
      gs := fun vs ρ h => match vs with
        | [] => .ok ρ h
        | _ => .err }
  | .cons e r => { Ev.no with
      a := fun ρ h => ((ev C e).e ρ h).bnd fun x h => ((ev C r).a ρ h).bnd fun xs h => .ok (x :: xs) h
      s := fun ρ h => ((ev C e).s ρ h).bnd fun f h => match f with
        | .nx ρ => (ev C r).s ρ h
        | f => .ok f h
      gs := fun vs ρ h => match vs with
        | v :: vs => if (!C.flag || PV.noClos vs) = true then ((ev C e).g v ρ h).bnd fun ρ h => (ev C r).gs vs ρ h else .err
        | [] => .err }
  | .star e r => { Ev.no with
      a := fun ρ h => ((ev C e).e ρ h).bnd fun x h => match x with
        | .tup ys => ((ev C r).a ρ h).bnd fun xs h => .ok (ys ++ xs) h
        | _ => .err }
  | .asg tg e => .ofS fun ρ h => ((ev C e).e ρ h).bnd fun v h => ((ev C tg).g v ρ h).bnd fun ρ h => .ok (.nx ρ) h
  | .aug i op e => .ofS fun ρ h => match slot ρ i with
    | some x => ((ev C e).e ρ h).bnd fun y h => match op, x, y with
      | .Add, .int a, .int b => (putS C i (.int (a + b)) ρ h).bnd fun ρ h => .ok (.nx ρ) h
      | .Sub, .int a, .int b => (putS C i (.int (a - b)) ρ h).bnd fun ρ h => .ok (.nx ρ) h
      | .Mult, .int a, .int b => if MulOk a b then (putS C i (.int (a * b)) ρ h).bnd fun ρ h => .ok (.nx ρ) h else .err
      | _, _, _ => .err
    | none => .err
  | .iff c a b => .ofS fun ρ h => ((ev C c).t ρ h).bnd fun k h => if k = true then (ev C a).s ρ h else (ev C b).s ρ h
  | .whl c b => .ofS fun ρ h => whileL (ev C c).t (ev C b).s C.wf ρ h
  | .fo tg it b => .ofS fun ρ h => ((ev C it).i ρ h).bnd fun it h => if (!C.flag || it.noClo) = true then forL (ev C tg).g (ev C b).s it C.wf 0 ρ h else .err
  | .ret e => .ofS fun ρ h => ((ev C e).e ρ h).bnd fun v h => retS C v h
  | .retn => .ofS fun _ h => retS C .non h
  | .xpr e => .ofS fun ρ h => ((ev C e).e ρ h).bnd fun _ h => .ok (.nx ρ) h
  | .app l e => .ofS fun ρ h => ((ev C l).e ρ h).bnd fun x h => match x with
    | .ref n => match isFl h n with
      | some _ => ((ev C e).e ρ h).bnd fun y h => match isFl h n with
        | some xs => if xs.length < sizeLine then .ok (.nx ρ) (h.set n (.lst false (xs ++ [y]))) else .err
        | none => .err
      | none => .err
    | _ => .err
  | .ext l e => .ofS fun ρ h => ((ev C l).e ρ h).bnd fun x h => match x with
    | .ref n => match isFl h n with
      | some _ => ((ev C e).e ρ h).bnd fun y h => match y with
        | .ref m => match isFl h n, isFl h m with
          | some xs, some ys => if xs.length + ys.length ≤ sizeLine then .ok (.nx ρ) (h.set n (.lst false (xs ++ ys))) else .err
          | _, _ => .err
        | _ => .err
      | none => .err
    | _ => .err
  | .rse c e => .ofS fun ρ h => ((ev C e).e ρ h).bnd fun v h => .ex c v h
  | .brk => .ofS fun ρ h => .ok (.bk ρ) h
  | .cnt => .ofS fun ρ h => .ok (.ct ρ) h
  | .pas => .ofS fun ρ h => .ok (.nx ρ) h
  | .doc => .ofS fun ρ h => .ok (.nx ρ) h
  | .try1 i j k c e => .ofS fun ρ h => match (ev C e).e ρ h with
    | .ok v h => .ok (.nx (ρ.set i (some v))) h
    | .ex d v h => if C.sub d c then .ok (.nx ((ρ.set j (some (.exc false d v))).set k none)) h else .err
    | .err => .err
  | .kil i => .ofS fun ρ h => .ok (.nx (ρ.set i none)) (match slot ρ i with
    | some (.ref n) => h.set n .dead
    | _ => h)
  | .rpx a => .ofE fun ρ h => ((ev C a).e ρ h).bnd fun x h => match x with
    | .exc true c v => match dataOf h v with
      | some d => if dictOk d = true ∧ d.showable = true ∧ d.depth ≤ 60 ∧ (C.cnm c).length + d.shown.length + 2 ≤ sizeLine then .ok (.str (C.cnm c ++ Str.ofString "(" ++ d.shown ++ Str.ofString ")")) h else .err
      | none => .err
    | _ => reprV x h
  | .lrg a => .ofE fun ρ h => ((ev C a).e ρ h).bnd fun x h => lrngV x h
  | .tn i => { Ev.no with g := fun v ρ h => putS C i v ρ h }
  | .tt ts => { Ev.no with g := fun v ρ h => match v with
      | .tup xs => if xs.length = ts.len then (ev C ts).gs xs ρ h else .err
      | _ => .err }
  | .tsub o i => { Ev.no with g := fun v ρ h => ((ev C o).e ρ h).bnd fun x h => ((ev C i).e ρ h).bnd fun y h => match x, y with
      | .ref n, .int k => match isFl h n with
        | some xs => match ixN xs.length k with
          | some j => .ok ρ (h.set n (.lst false (xs.set j v)))
          | none => .err
        | none => .err
      | _, _ => .err }
  | .rng1 a => { Ev.no with i := fun ρ h => ((ev C a).e ρ h).bnd fun x h => match x with
      | .int n => if n.natAbs ≤ 1000000 then .ok (.rng 0 n.toNat) h else .err
      | _ => .err }
  | .rng2 a b => { Ev.no with i := fun ρ h => ((ev C a).e ρ h).bnd fun x h => ((ev C b).e ρ h).bnd fun y h => match x, y with
      | .int l, .int n => if l.natAbs ≤ 1000000 ∧ n.natAbs ≤ 1000000 then .ok (.rng l (n - l).toNat) h else .err
      | _, _ => .err }

/-! ### a program -/
structure Fd where
  np : Nat
  ns : Nat
  body : T
  flag : Bool
  capd : List Nat
structure Ld where
  nc : Nat
  np : Nat
  body : T
structure Pg where
  fns : List Fd
  lams : List Ld
  glob : List PV
  caps : List (List Nat)
  sub : Nat → Nat → Bool
  cnm : Nat → Str
  wf : Nat
/-- run over a heap of its own, where that can be -/
def lcl (h : Hh) (args : List PV) (run : List PV → Hh → Rz PV) : Rz PV := match grab h args with
  | some (m, as, h0) => match run as h0 with
    | .ok v h1 => .ok (v.bak m h.length) (wrt m h.length m h1 h)
    | .ex c v h1 => .ex c (v.bak m h.length) (wrt m h.length m h1 h)
    | .err => .err
  | none => run args h
def cfgOf (P : Pg) (call : Nat → List PV → Hh → Rz PV) (clo : Nat → List PV → List PV → Hh → Rz PV) (flag : Bool) (capd : List Nat) : Cfg :=
  ⟨call, clo, P.glob, P.caps, P.sub, P.cnm, P.wf, flag, capd⟩
/-- a body's end -/
def endS (flag : Bool) : Rz Fl → Rz PV
  | .ok (.nx _) h => .ok .non (if flag then killH h else h)
  | .ok (.rt v) h => .ok v h
  | .ok _ _ => .err
  | .ex c v h => if flag then .err else .ex c v h
  | .err => .err
def runF (P : Pg) (call : Nat → List PV → Hh → Rz PV) (clo : Nat → List PV → List PV → Hh → Rz PV) (d : Fd) (args : List PV) (h : Hh) : Rz PV :=
  lcl h args fun as h0 => endS d.flag ((ev (cfgOf P call clo d.flag d.capd) d.body).s (as.map some ++ List.replicate (d.ns - d.np) none) h0)
def runL (P : Pg) (call : Nat → List PV → Hh → Rz PV) (clo : Nat → List PV → List PV → Hh → Rz PV) (d : Ld) (args : List PV) (h : Hh) : Rz PV :=
  (ev (cfgOf P call clo false []) d.body).e (args.map some) h
/-- calls so many deep: of a def (true), of a lambda with what it has captured ahead of its arguments (false) -/
def evN (P : Pg) : Nat → Bool → Nat → List PV → Hh → Rz PV
  | 0, _, _, _, _ => .err
  | n + 1, true, f, args, h => match P.fns[f]? with
    | some d => if args.length = d.np then runF P (evN P n true) (fun k cs vs h => evN P n false k (cs ++ vs) h) d args h else .err
    | none => .err
  | n + 1, false, k, args, h => match P.lams[k]? with
    | some d => if args.length = d.nc + d.np then runL P (evN P n true) (fun k cs vs h => evN P n false k (cs ++ vs) h) d args h else .err
    | none => .err
end EV
set_option linter.all false
set_option maxRecDepth 100000
set_option maxHeartbeats 1000000
/-! Ev2: how the small heap lies in the tracked heap; what a run of the evaluator promises. -/
namespace EV
open PySem PySem.Spec PyProof.Rows L2

/-- a lambda of the text -/
structure LamI where
  qual : Str
  params : Arguments
  body : Expr
  scope : Scope
  /-- what it captures, in the evaluator's order -/
  names : List Str
structure Gm where
  K : PySem.W.Frag
  clsA : Nat → Addr
  lam : Nat → LamI
  /-- the tables of code objects -/
  tabs : List (Addr × Str)
/-- a cell, tracked -/
def cellO (c : Addr) (o : Obj) : HO := .ext fun h => h.get? c = some o
def Trk (H : Hp) (c : Addr) (v : V) : Prop := ∃ o u, H c = some (cellO c o) ∧ o.data = .cell (some u) ∧ RelV v u
/-- an error's object, its own dict at d -/
def ExD (cls : Value) (d a : Addr) : HO := .ext fun h => ∃ (oe : Obj) (vs : Array Value), h.get? a = some oe ∧ Zc cls (some d) oe ∧ oe.data = .fields vs
/-- .. whose only argument stands in the tuple at t0 -/
def ExA (cls : Value) (d t0 a : Addr) : HO := .ext fun h => h.get? a = some ({ cls := cls, dict := some d, data := .fields #[.ref t0, .none, .none, .none, .bool false, .none] } : Obj)
/-- a lambda's object -/
def LamO (L : LamI) (cl : List (Str × Addr)) (c' f : Addr) : HO := .ext fun h => ∃ (pm ctv : Value), h.get? f = some (PySem.W.kla_obj "<lambda>" L.qual L.params L.body L.scope cl pm c' ctv)
abbrev Cw := Addr → V → Prop

mutual
def VR (Γ : Gm) (φ : List Addr) (H : Hp) (W : Cw) : PV → V → Prop
  | .non, v => v = .non
  | .bl b, v => v = .bl b
  | .int i, v => v = .int i
  | .str s, v => v = .str s
  | .tup xs, v => ∃ p vs, v = .ref p ∧ SqT Γ.K H p vs ∧ VRs Γ φ H W xs vs
  | .ref n, v => ∃ a, φ[n]? = some a ∧ v = .ref a
  | .exc b c x, v => ∃ a d y, v = .ref a ∧ (match b with
      | false => H a = some (ExD (.ref (Γ.clsA c)) d a)
      | true => ∃ t0, H a = some (ExA (.ref (Γ.clsA c)) d t0 a) ∧ SqT Γ.K H t0 [y]) ∧ H d = some (.xd [("value", y)]) ∧ VR Γ φ H W x y
  | .clo k xs, v => ∃ f c' cl vs, v = .ref f ∧ H f = some (LamO (Γ.lam k) cl c' f) ∧ H c' = some (LamX.CodeO c' (Γ.lam k).qual) ∧
      (∀ x y c, cl.lookup x = some c → cl.lookup y = some c → x = y) ∧ VRs Γ φ H W xs vs ∧ vs.length = (Γ.lam k).names.length ∧
      ∀ (i : Nat) (x : Str) (u : V), (Γ.lam k).names[i]? = some x → vs[i]? = some u → ∃ c, cl.lookup x = some c ∧ W c u
termination_by structural x => x
def VRs (Γ : Gm) (φ : List Addr) (H : Hp) (W : Cw) : List PV → List V → Prop
  | [], vs => vs = []
  | x :: xs, vs => ∃ v r, vs = v :: r ∧ VR Γ φ H W x v ∧ VRs Γ φ H W xs r
termination_by structural x => x
end

/-- a list that is only read -/
def SqF (H : Hp) (a : Addr) (xs : List V) : Prop := ∃ o, H a = some (.frz o (.lst xs))
theorem SqF.sq {K H a xs} (h : SqF H a xs) : SqL K H a xs := .inl (.inr h)
def OR (Γ : Gm) (φ : List Addr) (H : Hp) (W : Cw) (o : HV) (a : Addr) : Prop := match o with
  | .lst false xs => ∃ vs, H a = some (.lst vs) ∧ VRs Γ φ H W xs vs
  | .lst true xs => ∃ vs, SqF H a vs ∧ VRs Γ φ H W xs vs
  | .dct0 => H a = some (.dK [])
  | .dead => True
structure HR (Γ : Gm) (φ : List Addr) (H : Hp) (W : Cw) (h : Hh) : Prop where
  len : φ.length = h.length
  at_ : ∀ (n : Nat) o a, h[n]? = some o → φ[n]? = some a → OR Γ φ H W o a
  inj : ∀ (n m : Nat) a xs ys, φ[n]? = some a → φ[m]? = some a → h[n]? = some (.lst false xs) → h[m]? = some (.lst false ys) → n = m
  tabs : LamX.Tabs Γ.tabs H
/-- what stood stands: all but tables, and lists that are ours to write -/
structure Stp (φ φ' : List Addr) (H H' : Hp) : Prop where
  pre : ∀ (n : Nat) a, φ[n]? = some a → φ'[n]? = some a
  new : ∀ a, a ∈ φ' → a ∈ φ ∨ H a = none
  keep : ∀ b o, H b = some o → (∀ ps, o ≠ .tbl ps) → ((∃ vs, o = .lst vs) → b ∉ φ) → H' b = some o
  tbl : ∀ b ps, H b = some (.tbl ps) → ∃ ps', H' b = some (.tbl ps')
theorem Stp.refl {φ H} : Stp φ φ H H := ⟨fun _ _ h => h, fun _ h => .inl h, fun _ _ h _ _ => h, fun _ ps h => ⟨ps, h⟩⟩
theorem Stp.trans {φ φ1 φ2 H H1 H2} (a : Stp φ φ1 H H1) (b : Stp φ1 φ2 H1 H2) : Stp φ φ2 H H2 where
  pre := fun n x h => b.pre n x (a.pre n x h)
  new := fun x h => by
    rcases b.new x h with q | q
    · exact a.new x q
    · cases e : H x with
      | none => exact .inr rfl
      | some o =>
        by_cases hx : x ∈ φ
        · exact .inl hx
        · by_cases ht : ∃ ps, o = .tbl ps
          · obtain ⟨ps, rfl⟩ := ht
            obtain ⟨ps', e'⟩ := a.tbl x ps e
            rw [q] at e'
            cases e'
          · have e' := a.keep x o e (fun ps z => ht ⟨ps, z⟩) fun _ => hx
            rw [q] at e'
            cases e'
  keep := fun c o h n l => by
    refine b.keep c o (a.keep c o h n l) n fun z hm => ?_
    rcases a.new c hm with q | q
    · exact l z q
    · rw [q] at h
      cases h
  tbl := fun c ps h => by
    obtain ⟨ps', e⟩ := a.tbl c ps h
    exact b.tbl c ps' e
/-- what no write touches -/
theorem Stp.fix {φ φ' H H'} (a : Stp φ φ' H H') {b : Addr} {o : HO} (h : H b = some o) (n : ∀ ps, o ≠ .tbl ps) (l : ∀ vs, o ≠ .lst vs) : H' b = some o :=
  a.keep b o h n fun ⟨vs, z⟩ => absurd z (l vs)
theorem Stp.sqT {φ φ' H H' K p vs} (a : Stp φ φ' H H') (h : SqT K H p vs) : SqT K H' p vs := by
  rcases h with (h | ⟨o, h⟩) | h
  · exact .inl (.inl (a.fix h (fun _ z => nomatch z) fun _ z => nomatch z))
  · exact .inl (.inr ⟨o, a.fix h (fun _ z => nomatch z) fun _ z => nomatch z⟩)
  · exact .inr h
theorem Stp.sqF {φ φ' H H' p vs} (a : Stp φ φ' H H') (h : SqF H p vs) : SqF H' p vs := by
  obtain ⟨o, h⟩ := h
  exact ⟨o, a.fix h (fun _ z => nomatch z) fun _ z => nomatch z⟩

mutual
theorem VR.mono {Γ φ φ' H H' W W'} (a : Stp φ φ' H H') (w : ∀ c v, W c v → W' c v) : ∀ (x : PV) (v : V), VR Γ φ H W x v → VR Γ φ' H' W' x v
  | .non, _, h => h
  | .bl _, _, h => h
  | .int _, _, h => h
  | .str _, _, h => h
  | .tup xs, v, h => by
    simp only [VR] at h ⊢
    obtain ⟨p, vs, e, s, r⟩ := h
    exact ⟨p, vs, e, a.sqT s, VRs.mono a w xs vs r⟩
  | .ref n, v, h => by
    simp only [VR] at h ⊢
    obtain ⟨b, e, q⟩ := h
    exact ⟨b, a.pre n b e, q⟩
  | .exc p c x, v, h => by
    simp only [VR] at h ⊢
    obtain ⟨b, d, y, e, h1, h2, r⟩ := h
    refine ⟨b, d, y, e, ?_, a.fix h2 (fun _ z => nomatch z) (fun _ z => nomatch z), VR.mono a w x y r⟩
    cases p with
    | false => exact a.fix h1 (fun _ z => nomatch z) (fun _ z => nomatch z)
    | true =>
      obtain ⟨t0, h3, h4⟩ := h1
      exact ⟨t0, a.fix h3 (fun _ z => nomatch z) (fun _ z => nomatch z), a.sqT h4⟩
  | .clo k xs, v, h => by
    simp only [VR] at h ⊢
    obtain ⟨f, c', cl, vs, e, h1, h2, h3, r, l, q⟩ := h
    refine ⟨f, c', cl, vs, e, a.fix h1 (fun _ z => nomatch z) (fun _ z => nomatch z), a.fix h2 (fun _ z => nomatch z) (fun _ z => nomatch z), h3, VRs.mono a w xs vs r, l, fun i x u e1 e2 => ?_⟩
    obtain ⟨c, e3, e4⟩ := q i x u e1 e2
    exact ⟨c, e3, w c u e4⟩
theorem VRs.mono {Γ φ φ' H H' W W'} (a : Stp φ φ' H H') (w : ∀ c v, W c v → W' c v) : ∀ (x : List PV) (v : List V), VRs Γ φ H W x v → VRs Γ φ' H' W' x v
  | [], _, h => h
  | x :: xs, vs, h => by
    simp only [VRs] at h ⊢
    obtain ⟨v, r, e, h1, h2⟩ := h
    exact ⟨v, r, e, VR.mono a w x v h1, VRs.mono a w xs r h2⟩
end
mutual
/-- without closures cells do not matter -/
theorem VR.noClo {Γ φ H W W'} : ∀ (x : PV) (v : V), x.noClo = true → VR Γ φ H W x v → VR Γ φ H W' x v
  | .non, _, _, h => h
  | .bl _, _, _, h => h
  | .int _, _, _, h => h
  | .str _, _, _, h => h
  | .tup xs, v, n, h => by
    simp only [VR] at h ⊢
    obtain ⟨p, vs, e, s, r⟩ := h
    exact ⟨p, vs, e, s, VRs.noClo xs vs n r⟩
  | .ref n, v, _, h => h
  | .exc p c x, v, n, h => by
    simp only [VR] at h ⊢
    obtain ⟨b, d, y, e, h1, h2, r⟩ := h
    exact ⟨b, d, y, e, h1, h2, VR.noClo x y n r⟩
  | .clo k xs, v, n, h => by cases n
theorem VRs.noClo {Γ φ H W W'} : ∀ (x : List PV) (v : List V), PV.noClos x = true → VRs Γ φ H W x v → VRs Γ φ H W' x v
  | [], _, _, h => h
  | x :: xs, vs, n, h => by
    simp only [VRs] at h ⊢
    obtain ⟨v, r, e, h1, h2⟩ := h
    have n' : (x.noClo && PV.noClos xs) = true := n
    rw [Bool.and_eq_true] at n'
    exact ⟨v, r, e, VR.noClo x v n'.1 h1, VRs.noClo xs r n'.2 h2⟩
end
theorem VRs.len {Γ φ H W} : ∀ {xs : List PV} {vs : List V}, VRs Γ φ H W xs vs → vs.length = xs.length
  | [], vs, h => by
    have e : vs = [] := h
    rw [e]; rfl
  | x :: xs, vs, h => by
    obtain ⟨v, r, e, _, h2⟩ := h
    rw [e, List.length_cons, List.length_cons, VRs.len h2]
theorem VRs.get {Γ φ H W} : ∀ {xs : List PV} {vs : List V} {i : Nat} {x : PV}, VRs Γ φ H W xs vs → xs[i]? = some x → ∃ v, vs[i]? = some v ∧ VR Γ φ H W x v
  | [], _, _, _, _, e => by simp at e
  | y :: xs, vs, 0, x, h, e => by
    obtain ⟨v, r, e1, h1, _⟩ := h
    subst e1
    simp at e
    subst e
    exact ⟨v, rfl, h1⟩
  | y :: xs, vs, i + 1, x, h, e => by
    obtain ⟨v, r, e1, _, h2⟩ := h
    subst e1
    obtain ⟨u, e2, q⟩ := VRs.get (i := i) h2 (by simpa using e)
    exact ⟨u, by simpa using e2, q⟩
theorem VRs.app {Γ φ H W} : ∀ {xs ys : List PV} {vs us : List V}, VRs Γ φ H W xs vs → VRs Γ φ H W ys us → VRs Γ φ H W (xs ++ ys) (vs ++ us)
  | [], ys, vs, us, h, g => by
    have e : vs = [] := h
    rw [e]; exact g
  | x :: xs, ys, vs, us, h, g => by
    obtain ⟨v, r, e1, h1, h2⟩ := h
    subst e1
    exact ⟨v, r ++ us, rfl, h1, VRs.app h2 g⟩
theorem VRs.take {Γ φ H W} : ∀ {xs : List PV} {vs : List V} (n : Nat), VRs Γ φ H W xs vs → VRs Γ φ H W (xs.take n) (vs.take n)
  | _, _, 0, _ => by rw [List.take_zero, List.take_zero]; exact rfl
  | [], vs, n + 1, h => by
    have e : vs = [] := h
    rw [e]; exact rfl
  | x :: xs, vs, n + 1, h => by
    obtain ⟨v, r, e1, h1, h2⟩ := h
    subst e1
    exact ⟨v, r.take n, rfl, h1, VRs.take n h2⟩
theorem VRs.drop {Γ φ H W} : ∀ {xs : List PV} {vs : List V} (n : Nat), VRs Γ φ H W xs vs → VRs Γ φ H W (xs.drop n) (vs.drop n)
  | _, _, 0, h => h
  | [], vs, n + 1, h => by
    have e : vs = [] := h
    rw [e]; exact rfl
  | x :: xs, vs, n + 1, h => by
    obtain ⟨v, r, e1, h1, h2⟩ := h
    subst e1
    exact VRs.drop n h2
theorem VRs.rev {Γ φ H W} : ∀ {xs : List PV} {vs : List V}, VRs Γ φ H W xs vs → VRs Γ φ H W xs.reverse vs.reverse
  | [], vs, h => by
    have e : vs = [] := h
    rw [e]; exact rfl
  | x :: xs, vs, h => by
    obtain ⟨v, r, e1, h1, h2⟩ := h
    subst e1
    rw [List.reverse_cons, List.reverse_cons]
    exact VRs.app (VRs.rev h2) ⟨v, [], rfl, h1, rfl⟩
theorem VRs.set {Γ φ H W} : ∀ {xs : List PV} {vs : List V} (i : Nat) {x v}, VRs Γ φ H W xs vs → VR Γ φ H W x v → VRs Γ φ H W (xs.set i x) (vs.set i v)
  | [], vs, _, _, _, h, _ => by
    have e : vs = [] := h
    rw [e]; exact rfl
  | y :: xs, vs, 0, x, v, h, g => by
    obtain ⟨u, r, e1, h1, h2⟩ := h
    subst e1
    exact ⟨v, r, rfl, g, h2⟩
  | y :: xs, vs, i + 1, x, v, h, g => by
    obtain ⟨u, r, e1, h1, h2⟩ := h
    subst e1
    exact ⟨u, r.set i v, rfl, h1, VRs.set i h2 g⟩
theorem VRs.rep {Γ φ H W} {xs : List PV} {vs : List V} (h : VRs Γ φ H W xs vs) : ∀ k : Nat, VRs Γ φ H W (List.replicate k xs).flatten (List.replicate k vs).flatten
  | 0 => rfl
  | k + 1 => by
    rw [List.replicate_succ, List.replicate_succ, List.flatten_cons, List.flatten_cons]
    exact VRs.app h (VRs.rep h k)
theorem VRs.cons' {Γ φ H W x v xs vs} (h : VR Γ φ H W x v) (g : VRs Γ φ H W xs vs) : VRs Γ φ H W (x :: xs) (v :: vs) := ⟨v, vs, rfl, h, g⟩

/-! ### slots -/
structure RE (Γ : Gm) (φ : List Addr) (H : Hp) (W : Cw) (ρ : En) (σ : L2.St) : Prop where
  get : ∀ (i : Nat) x, ρ[i]? = some (some x) → ∃ v, σ[i]? = some (some v) ∧ VR Γ φ H W x v
theorem RE.mono {Γ φ φ' H H' W W' ρ σ} (r : RE Γ φ H W ρ σ) (a : Stp φ φ' H H') (w : ∀ c v, W c v → W' c v) : RE Γ φ' H' W' ρ σ :=
  ⟨fun i x e => let ⟨v, e1, h⟩ := r.get i x e; ⟨v, e1, VR.mono a w x v h⟩⟩
theorem slot_some {ρ : En} {i : Nat} {x : PV} (h : slot ρ i = some x) : ρ[i]? = some (some x) := by
  unfold slot at h
  split at h
  · rename_i e
    rw [e, Option.some.inj h]
  · cases h

/-! ### the heap grows, is written -/
theorem tabs_upd {T : List (Addr × Str)} {H : Hp} {p : Addr} {o : HO} (h : LamX.Tabs T H) (n : H p = none) : LamX.Tabs T (upd H p o) :=
  h.ext fun b u e => by rw [upd_ne (ne_of_none e n)]; exact e
theorem stp_new {φ : List Addr} {H : Hp} {p : Addr} {o : HO} (n : H p = none) : Stp φ φ H (upd H p o) :=
  ⟨fun _ _ h => h, fun _ h => .inl h, fun b u e _ _ => by rw [upd_ne (ne_of_none e n)]; exact e, fun b ps e => ⟨ps, by rw [upd_ne (ne_of_none e n)]; exact e⟩⟩
theorem stp_add {φ : List Addr} {H : Hp} {p : Addr} {o : HO} (n : H p = none) : Stp φ (φ ++ [p]) H (upd H p o) :=
  ⟨fun k a h => by
      have hk : k < φ.length := (List.getElem?_eq_some_iff.mp h).1
      rw [List.getElem?_append_left hk]; exact h,
    fun a h => (List.mem_append.mp h).elim .inl fun z => .inr (by rw [List.mem_singleton.mp z]; exact n), fun b u e _ _ => by rw [upd_ne (ne_of_none e n)]; exact e, fun b ps e => ⟨ps, by rw [upd_ne (ne_of_none e n)]; exact e⟩⟩
theorem OR.mono {Γ φ φ' H H' W W' o a} (s : Stp φ φ' H H') (w : ∀ c v, W c v → W' c v) (h : OR Γ φ H W o a) (k : ∀ vs, H a = some (.lst vs) → H' a = some (.lst vs)) : OR Γ φ' H' W' o a := by
  cases o with
  | lst f xs =>
    cases f with
    | false =>
      obtain ⟨vs, e, r⟩ := h
      exact ⟨vs, k vs e, VRs.mono s w xs vs r⟩
    | true =>
      obtain ⟨vs, e, r⟩ := h
      exact ⟨vs, s.sqF e, VRs.mono s w xs vs r⟩
  | dct0 => exact s.fix (show H a = some (.dK []) from h) (fun _ z => nomatch z) fun _ z => nomatch z
  | dead => trivial
/-- an object that is no list is laid -/
theorem HR.new {Γ φ H W W' h} (r : HR Γ φ H W h) {p : Addr} {o : HO} (n : H p = none) (w : ∀ c v, W c v → W' c v) : HR Γ φ (upd H p o) W' h :=
  ⟨r.len, fun k u a e1 e2 => (r.at_ k u a e1 e2).mono (stp_new n) w fun vs e => by rw [upd_ne (ne_of_none e n)]; exact e, r.inj, tabs_upd r.tabs n⟩
/-- an object gets the next place -/
theorem HR.add {Γ φ H W W' h} (r : HR Γ φ H W h) {p : Addr} {o : HO} {u : HV} (n : H p = none) (w : ∀ c v, W c v → W' c v) (q : OR Γ (φ ++ [p]) (upd H p o) W' u p) : HR Γ (φ ++ [p]) (upd H p o) W' (h ++ [u]) := by
  have s := stp_add (φ := φ) (o := o) n
  have out : ∀ {k : Nat} {a : Addr} {xs : List PV}, φ[k]? = some a → h[k]? = some (.lst false xs) → a ≠ p := fun {k a xs} e1 e2 z => by
    obtain ⟨vs, e, _⟩ := r.at_ k _ a e2 e1
    rw [z, n] at e
    cases e
  refine ⟨by rw [List.length_append, List.length_append, r.len]; rfl, fun k v a e1 e2 => ?_, fun k m a xs ys e1 e2 e3 e4 => ?_, tabs_upd r.tabs n⟩
  · by_cases hk : k < h.length
    · rw [List.getElem?_append_left hk] at e1
      rw [List.getElem?_append_left (by rw [r.len]; exact hk)] at e2
      exact (r.at_ k v a e1 e2).mono s w fun vs e => by rw [upd_ne (ne_of_none e n)]; exact e
    · have hk1 : k < (h ++ [u]).length := (List.getElem?_eq_some_iff.mp e1).1
      rw [List.length_append, List.length_singleton] at hk1
      have ek : k = h.length := by omega
      subst ek
      rw [List.getElem?_concat_length] at e1
      rw [← r.len, List.getElem?_concat_length] at e2
      cases e1
      cases e2
      exact q
  · have key : ∀ {k m : Nat} {xs ys : List PV}, (φ ++ [p])[k]? = some a → (φ ++ [p])[m]? = some a → (h ++ [u])[k]? = some (.lst false xs) → (h ++ [u])[m]? = some (.lst false ys) → k < h.length → k = m := fun {k m xs ys} e1 e2 e3 e4 hk => by
      rw [List.getElem?_append_left (by rw [r.len]; exact hk)] at e1
      rw [List.getElem?_append_left hk] at e3
      by_cases hm : m < h.length
      · rw [List.getElem?_append_left (by rw [r.len]; exact hm)] at e2
        rw [List.getElem?_append_left hm] at e4
        exact r.inj k m a xs ys e1 e2 e3 e4
      · have hm1 : m < (h ++ [u]).length := (List.getElem?_eq_some_iff.mp e4).1
        rw [List.length_append, List.length_singleton] at hm1
        have em : m = h.length := by omega
        subst em
        rw [← r.len, List.getElem?_concat_length] at e2
        cases e2
        exact absurd rfl (out e1 e3)
    by_cases hk : k < h.length
    · exact key e1 e2 e3 e4 hk
    · by_cases hm : m < h.length
      · exact (key e2 e1 e4 e3 hm).symm
      · have hk1 : k < (h ++ [u]).length := (List.getElem?_eq_some_iff.mp e3).1
        have hm1 : m < (h ++ [u]).length := (List.getElem?_eq_some_iff.mp e4).1
        rw [List.length_append, List.length_singleton] at hk1 hm1
        omega
/-- a list of ours is written -/
theorem HR.write {Γ φ H W h} (r : HR Γ φ H W h) {n : Nat} {a : Addr} {xs ys : List PV} {us : List V} (e : φ[n]? = some a) (e1 : h[n]? = some (.lst false xs)) (q : VRs Γ φ H W ys us) {W' : Cw} (w' : ∀ c v, W c v → W' c v) :
    Stp φ φ H (upd H a (.lst us)) ∧ HR Γ φ (upd H a (.lst us)) W' (h.set n (.lst false ys)) := by
  obtain ⟨vs, ea, _⟩ := r.at_ n _ a e1 e
  have mem : a ∈ φ := List.mem_of_getElem? e
  have s : Stp φ φ H (upd H a (.lst us)) := by
    refine ⟨fun _ _ z => z, fun _ z => .inl z, fun b o eb _ l => ?_, fun b ps eb => ⟨ps, ?_⟩⟩
    · have ne : b ≠ a := fun z => by
        rw [z, ea] at eb
        exact l ⟨vs, (Option.some.inj eb).symm⟩ (by rw [z]; exact mem)
      rw [upd_ne ne]; exact eb
    · have ne : b ≠ a := fun z => by
        rw [z, ea] at eb
        cases eb
      rw [upd_ne ne]; exact eb
  have hn : n < h.length := (List.getElem?_eq_some_iff.mp e1).1
  refine ⟨s, by rw [List.length_set]; exact r.len, fun k o b q1 q2 => ?_, fun k m b x y q1 q2 q3 q4 => ?_, ?_⟩
  · by_cases hk : k = n
    · subst hk
      rw [List.getElem?_set_self hn] at q1
      rw [e] at q2
      cases q1
      cases q2
      exact ⟨us, upd_same, VRs.mono s w' ys us q⟩
    · rw [List.getElem?_set_ne (Ne.symm hk)] at q1
      have old := r.at_ k o b q1 q2
      cases o with
      | lst f zs =>
        cases f with
        | false =>
          have nb : b ≠ a := fun z => by
            subst z
            exact hk (r.inj k n b zs xs q2 e q1 e1)
          exact old.mono s w' fun vs' ev => by rw [upd_ne nb]; exact ev
        | true =>
          obtain ⟨vs', ev, rv⟩ := old
          exact ⟨vs', s.sqF ev, VRs.mono s w' zs vs' rv⟩
      | dct0 =>
        have eb : H b = some (.dK []) := old
        exact s.fix eb (fun _ z => nomatch z) fun _ z => nomatch z
      | dead => trivial
  · have low : ∀ {k : Nat} {x : List PV}, (h.set n (.lst false ys))[k]? = some (.lst false x) → ∃ z, h[k]? = some (.lst false z) := fun {k x} q => by
      by_cases hk : k = n
      · exact ⟨xs, by rw [hk]; exact e1⟩
      · rw [List.getElem?_set_ne (Ne.symm hk)] at q
        exact ⟨x, q⟩
    obtain ⟨z, q3'⟩ := low q3
    obtain ⟨z', q4'⟩ := low q4
    exact r.inj k m b z z' q1 q2 q3' q4'
  · intro p hp
    obtain ⟨ps, e1, e2, e3⟩ := r.tabs p hp
    have np : p.1 ≠ a := fun z => by
      rw [z, ea] at e1
      cases e1
    refine ⟨ps, by rw [upd_ne np]; exact e1, e2, fun pos cv hc => ?_⟩
    obtain ⟨c, f1, f2⟩ := e3 pos cv hc
    refine ⟨c, f1, ?_⟩
    have nc : c ≠ a := fun z => by
      rw [z, ea] at f2
      unfold LamX.CodeO at f2
      cases f2
    rw [upd_ne nc]; exact f2
end EV
set_option linter.all false
set_option maxRecDepth 100000
set_option maxHeartbeats 1000000
/-! Ev3: what a run promises, as readings; how they join. -/
namespace EV
open PySem PySem.Spec PyProof.Rows L2

structure Ct where
  Γ : Gm
  X : Cx
  flag : Bool
  capd : List Nat
  E : XK
/-- a cell of this frame's own, by the slot -/
def Own (X : Cx) (capd : List Nat) (σ : L2.St) (c : Addr) (v : V) : Prop := ∃ (i : Nat) (x : Str), i ∈ capd ∧ X.N[i]? = some x ∧ σ[i]? = some (some v) ∧ X.env.cells.lookup x = some c ∧ X.env.kindOf x = some .cell
def Ct.W (C : Ct) (σ : L2.St) (H : Hp) : Cw := fun c v => Trk H c v ∨ (C.flag = true ∧ Own C.X C.capd σ c v)
def Ct.Ex (C : Ct) : XK := fun cls d H => C.flag = false ∧ C.E cls d H
theorem Trk.mono {φ φ' H H' c v} (s : Stp φ φ' H H') (h : Trk H c v) : Trk H' c v := by
  obtain ⟨o, u, e, d, r⟩ := h
  exact ⟨o, u, s.fix e (fun _ z => nomatch z) (fun _ z => nomatch z), d, r⟩
theorem Ct.wm {C : Ct} {φ φ' σ H H'} (s : Stp φ φ' H H') : ∀ c v, C.W σ H c v → C.W σ H' c v := fun c v h => h.elim (fun z => .inl (z.mono s)) .inr
structure Rl (C : Ct) (φ : List Addr) (h : Hh) (ρ : En) (σ : L2.St) (H : Hp) : Prop where
  hr : HR C.Γ φ H (C.W σ H) h
  re : RE C.Γ φ H (C.W σ H) ρ σ
theorem Rl.on {C : Ct} {φ φ' h h' ρ σ H H'} (r : Rl C φ h ρ σ H) (s : Stp φ φ' H H') (k : HR C.Γ φ' H' (C.W σ H') h') : Rl C φ' h' ρ σ H' := ⟨k, r.re.mono s (Ct.wm s)⟩
/-- an error leaves with its value -/
def PoX (Γ : Gm) (φ : List Addr) (H : Hp) (c : Nat) (v : PV) (h' : Hh) (E : XK) : Prop :=
  ∀ φ' H' d y, Stp φ φ' H H' → HR Γ φ' H' (Trk H') h' → H' d = some (.xd [("value", y)]) → VR Γ φ' H' (Trk H') v y → E (.ref (Γ.clsA c)) (some d) H'
theorem PoX.step {Γ φ φ1 H H1 c v h' E} (p : PoX Γ φ H c v h' E) (s : Stp φ φ1 H H1) : PoX Γ φ1 H1 c v h' E := fun φ' H' d y s' => p φ' H' d y (s.trans s')
/-- what is promised of a run's end -/
def Po {α : Type} (C : Ct) (φ : List Addr) (σ : L2.St) (H : Hp) (r : Rz α) (k : α → List Addr → Hh → Hp → Prop) : Prop := match r with
  | .ok a h' => ∀ φ' H', Stp φ φ' H H' → HR C.Γ φ' H' (C.W σ H') h' → k a φ' h' H'
  | .ex c v h' => PoX C.Γ φ H c v h' C.Ex
  | .err => False
theorem Po.step {α : Type} {C : Ct} {φ φ1 σ H H1} {r : Rz α} {k} (p : Po C φ σ H r k) (s : Stp φ φ1 H H1) : Po C φ1 σ H1 r k := by
  cases r with
  | ok a h' => exact fun φ' H' s' => p φ' H' (s.trans s')
  | ex c v h' => exact PoX.step p s
  | err => exact p
theorem Po.imp {α : Type} {C : Ct} {φ σ H} {r : Rz α} {k k'} (p : Po C φ σ H r k) (i : ∀ a φ' h' H', Stp φ φ' H H' → HR C.Γ φ' H' (C.W σ H') h' → k a φ' h' H' → k' a φ' h' H') : Po C φ σ H r k' := by
  cases r with
  | ok a h' => exact fun φ' H' s' hr => i a φ' h' H' s' hr (p φ' H' s' hr)
  | ex c v h' => exact p
  | err => exact p
/-- a run, then another -/
theorem Po.bnd {α β : Type} {C : Ct} {φ σ H} {r : Rz α} {f : α → Hh → Rz β} {k} (p : Po C φ σ H (r.bnd f) k) : Po C φ σ H r fun a φ' h' H' => Po C φ' σ H' (f a h') k := by
  cases r with
  | ok a h' => exact fun φ' H' s' _ => Po.step (show Po C φ σ H (f a h') k from p) s'
  | ex c v h' => exact p
  | err => exact p
theorem Po.ok {α : Type} {C : Ct} {φ σ H} {a : α} {h k} (p : Po C φ σ H (.ok a h) k) (hr : HR C.Γ φ H (C.W σ H) h) : k a φ h H := p φ H Stp.refl hr

def tE (C : Ct) (f : En → Hh → Rz PV) : TE := fun σ H Q => ∃ φ ρ h, Rl C φ h ρ σ H ∧ Po C φ σ H (f ρ h) fun v φ' _ H' => ∀ V, VR C.Γ φ' H' (C.W σ H') v V → Q V H'
def tT (C : Ct) (f : En → Hh → Rz Bool) : TT := fun σ H Q => ∃ φ ρ h, Rl C φ h ρ σ H ∧ Po C φ σ H (f ρ h) fun b _ _ H' => Q b H'
def tA (C : Ct) (f : En → Hh → Rz (List PV)) : TA := fun σ H Q => ∃ φ ρ h, Rl C φ h ρ σ H ∧ Po C φ σ H (f ρ h) fun vs φ' _ H' => ∀ Vs, VRs C.Γ φ' H' (C.W σ H') vs Vs → Q Vs H'
def tO (C : Ct) (f : En → Hh → Rz (Option Int)) : TO := fun σ H Q => ∃ φ ρ h, Rl C φ h ρ σ H ∧ Po C φ σ H (f ρ h) fun o _ _ H' => Q o H'
/-- a target: it may write slots -/
def PoG {α : Type} (C : Ct) (φ : List Addr) (H : Hp) (r : Rz α) (k : α → List Addr → Hh → Hp → Prop) : Prop := match r with
  | .ok a h' => ∀ φ' H', Stp φ φ' H H' → k a φ' h' H'
  | .ex c v h' => PoX C.Γ φ H c v h' C.Ex
  | .err => False
/-- but for some slots nothing is written -/
def Agr (ws : List Nat) (σ σ' : L2.St) : Prop := σ'.length = σ.length ∧ ∀ i, i ∉ ws → σ'[i]? = σ[i]?
def tG (C : Ct) (ws : List Nat) (f : PV → En → Hh → Rz En) : TG := fun V σ H Q => ∃ φ ρ h v, Rl C φ h ρ σ H ∧ VR C.Γ φ H (C.W σ H) v V ∧ PoG C φ H (f v ρ h) fun ρ' φ' h' H' => ∀ σ', Rl C φ' h' ρ' σ' H' → Agr ws σ σ' → Q σ' H'
def tGs (C : Ct) (ws : List Nat) (f : List PV → En → Hh → Rz En) : TGs := fun Vs σ H Q => ∃ φ ρ h vs, Rl C φ h ρ σ H ∧ VRs C.Γ φ H (C.W σ H) vs Vs ∧ PoG C φ H (f vs ρ h) fun ρ' φ' h' H' => ∀ σ', Rl C φ' h' ρ' σ' H' → Agr ws σ σ' → Q σ' H'
def PoF (C : Ct) (D : Ends) (f : Fl) (φ' : List Addr) (h' : Hh) (H' : Hp) : Prop := match f with
  | .nx ρ => ∀ σ', Rl C φ' h' ρ σ' H' → D.nx σ' H'
  | .bk ρ => ∀ σ', Rl C φ' h' ρ σ' H' → D.bk σ' H'
  | .ct ρ => ∀ σ', Rl C φ' h' ρ σ' H' → D.ct σ' H'
  | .rt v => HR C.Γ φ' H' (Trk H') h' → ∀ V, VR C.Γ φ' H' (Trk H') v V → D.rt V H'
def tS (C : Ct) (f : En → Hh → Rz Fl) : TS := fun D σ H => ∃ φ ρ h, Rl C φ h ρ σ H ∧ PoG C φ H (f ρ h) (PoF C D)
theorem PoG.step {α : Type} {C : Ct} {φ φ1 H H1} {r : Rz α} {k} (p : PoG C φ H r k) (s : Stp φ φ1 H H1) : PoG C φ1 H1 r k := by
  cases r with
  | ok a h' => exact fun φ' H' s' => p φ' H' (s.trans s')
  | ex c v h' => exact PoX.step p s
  | err => exact p
theorem PoG.imp {α : Type} {C : Ct} {φ H} {r : Rz α} {k k'} (p : PoG C φ H r k) (i : ∀ a φ' h' H', Stp φ φ' H H' → k a φ' h' H' → k' a φ' h' H') : PoG C φ H r k' := by
  cases r with
  | ok a h' => exact fun φ' H' s' => i a φ' h' H' s' (p φ' H' s')
  | ex c v h' => exact p
  | err => exact p
theorem PoG.bnd {α β : Type} {C : Ct} {φ H} {r : Rz α} {f : α → Hh → Rz β} {k} (p : PoG C φ H (r.bnd f) k) : PoG C φ H r fun a φ' h' H' => PoG C φ' H' (f a h') k := by
  cases r with
  | ok a h' => exact fun φ' H' s' => PoG.step (show PoG C φ H (f a h') k from p) s'
  | ex c v h' => exact p
  | err => exact p
/-- an expression within a statement -/
theorem PoG.po {α : Type} {C : Ct} {φ σ H} {r : Rz α} {k} (p : PoG C φ H r k) : Po C φ σ H r k := by
  cases r with
  | ok a h' => exact fun φ' H' s' _ => p φ' H' s'
  | ex c v h' => exact p
  | err => exact p
theorem tE.mk {C : Ct} {f σ H Q φ ρ h} (r : Rl C φ h ρ σ H) (p : Po C φ σ H (f ρ h) fun v φ' h' H' => ∀ V, VR C.Γ φ' H' (C.W σ H') v V → Rl C φ' h' ρ σ H' → Q V H') : tE C f σ H Q :=
  ⟨φ, ρ, h, r, p.imp fun a φ' h' H' s hr q V v => q V v (r.on s hr)⟩
theorem tT.mk {C : Ct} {f σ H Q φ ρ h} (r : Rl C φ h ρ σ H) (p : Po C φ σ H (f ρ h) fun v φ' h' H' => Rl C φ' h' ρ σ H' → Q v H') : tT C f σ H Q :=
  ⟨φ, ρ, h, r, p.imp fun a φ' h' H' s hr q => q (r.on s hr)⟩
theorem tA.mk {C : Ct} {f σ H Q φ ρ h} (r : Rl C φ h ρ σ H) (p : Po C φ σ H (f ρ h) fun v φ' h' H' => ∀ V, VRs C.Γ φ' H' (C.W σ H') v V → Rl C φ' h' ρ σ H' → Q V H') : tA C f σ H Q :=
  ⟨φ, ρ, h, r, p.imp fun a φ' h' H' s hr q V v => q V v (r.on s hr)⟩
theorem tO.mk {C : Ct} {f σ H Q φ ρ h} (r : Rl C φ h ρ σ H) (p : Po C φ σ H (f ρ h) fun v φ' h' H' => Rl C φ' h' ρ σ H' → Q v H') : tO C f σ H Q :=
  ⟨φ, ρ, h, r, p.imp fun a φ' h' H' s hr q => q (r.on s hr)⟩

/-! ### what the text must be: static facts, and the roles -/
structure Si where
  sc : Scope
  N : List Str
  flag : Bool
  capd : List Nat
  fnm : List Str
  gnm : List Str
  cnm : List Str
  lams : List LamI
  /-- keyword calls that are known: the def, how many by place, the names, the order -/
  kws : List (Nat × Nat × List Str × List Nat)
def visB (sc : Scope) (x : Str) : Bool := match sc.names.lookup x with
  | some .local => true
  | some .cell => true
  | some .free => true
  | _ => false
theorem vis_of {sc : Scope} {x : Str} (h : visB sc x = true) : Vis sc x := by
  unfold visB at h
  split at h
  · rename_i e; exact .inl e
  · rename_i e; exact .inr (.inl e)
  · rename_i e; exact .inr (.inr e)
  · cases h
def glB (sc : Scope) (x : Str) : Bool := match sc.names.lookup x with
  | some .globalImplicit => true
  | _ => false
def okName (x : Str) : Bool := !(x == ("__debug__" : Str)) && !(x == ("__classdict__" : Str))
end EV
set_option linter.all false
set_option maxRecDepth 100000
set_option maxHeartbeats 1000000
/-! Ev4: operators by values. -/
namespace EV
open PySem PySem.Spec PyProof.Rows L2

theorem _root_.L2.PE.imp {X : Cx} {e : Expr} {t t' : TE} (h : PE X e t) (i : ∀ σ H Q, t' σ H Q → t σ H Q) : PE X e t' := ⟨fun pins s σ H Q I q => h.run pins s σ H Q I (i σ H Q q)⟩
theorem _root_.L2.PT.imp {X : Cx} {e : Expr} {t t' : TT} (h : PT X e t) (i : ∀ σ H Q, t' σ H Q → t σ H Q) : PT X e t' := ⟨fun pins s σ H Q I q => h.run pins s σ H Q I (i σ H Q q)⟩
theorem _root_.L2.PW.imp {X : Cx} {e : Expr} {t t' : TT} (h : PW X e t) (i : ∀ σ H Q, t' σ H Q → t σ H Q) : PW X e t' := ⟨fun w pins s σ H Q I q => h.run w pins s σ H Q I (i σ H Q q)⟩
theorem _root_.L2.PA.imp {X : Cx} {e : List Expr} {t t' : TA} (h : PA X e t) (i : ∀ σ H Q, t' σ H Q → t σ H Q) : PA X e t' := ⟨fun p pins s σ H Q I q => h.run p pins s σ H Q I (i σ H Q q)⟩
theorem _root_.L2.PS.imp {X : Cx} {e : Stmt} {t t' : TS} (h : PS X e t) (i : ∀ D σ H, t' D σ H → t D σ H) : PS X e t' := ⟨fun pins s σ H D I q => h.run pins s σ H D I (i D σ H q)⟩
theorem _root_.L2.PSs.imp {X : Cx} {e : List Stmt} {t t' : TS} (h : PSs X e t) (i : ∀ D σ H, t' D σ H → t D σ H) : PSs X e t' := ⟨fun pins s σ H D I q => h.run pins s σ H D I (i D σ H q)⟩

theorem ref_add {Γ φ H W h} {p : Addr} (r : φ.length = List.length (α := HV) h) : VR Γ (φ ++ [p]) H W (.ref h.length) (.ref p) := by
  simp only [VR]
  exact ⟨p, by rw [← r, List.getElem?_concat_length], rfl⟩
theorem Po.newL {C : Ct} {φ σ H xs h k vs} (po : Po C φ σ H (newL xs h) k) (r : HR C.Γ φ H (C.W σ H) h) (q : VRs C.Γ φ H (C.W σ H) xs vs) {p : Addr} (n : H p = none) :
    k (.ref h.length) (φ ++ [p]) (h ++ [.lst false xs]) (upd H p (.lst vs)) := by
  have s := stp_add (φ := φ) (o := HO.lst vs) n
  exact po _ _ s (r.add n (Ct.wm s) ⟨vs, upd_same, VRs.mono s (Ct.wm s) _ _ q⟩)
theorem Po.ok' {α : Type} {C : Ct} {φ σ H} {a : α} {h k} (p : Po C φ σ H (.ok a h) k) (hr : HR C.Γ φ H (C.W σ H) h) : k a φ h H := p φ H Stp.refl hr
theorem HR.isFl {Γ φ H W h} (r : HR Γ φ H W h) {n : Nat} {xs : List PV} (e : isFl h n = some xs) {V} (v : VR Γ φ H W (.ref n) V) : ∃ a vs, V = .ref a ∧ φ[n]? = some a ∧ h[n]? = some (.lst false xs) ∧ H a = some (.lst vs) ∧ VRs Γ φ H W xs vs := by
  unfold EV.isFl at e
  split at e
  · rename_i ys q
    cases e
    simp only [VR] at v
    obtain ⟨a, ea, ev⟩ := v
    obtain ⟨vs, e1, e2⟩ := r.at_ n _ a q ea
    exact ⟨a, vs, ev, ea, q, e1, e2⟩
  · cases e
theorem HR.getL {Γ φ H W h} (r : HR Γ φ H W h) {n : Nat} {xs : List PV} (e : getL h n = some xs) {V} (v : VR Γ φ H W (.ref n) V) : ∃ a vs, V = .ref a ∧ SqL Γ.K H a vs ∧ VRs Γ φ H W xs vs := by
  unfold EV.getL at e
  split at e
  · rename_i f ys q
    cases e
    simp only [VR] at v
    obtain ⟨a, ea, ev⟩ := v
    have z := r.at_ n _ a q ea
    cases f with
    | false =>
      obtain ⟨vs, e1, e2⟩ := z
      exact ⟨a, vs, ev, .of e1, e2⟩
    | true =>
      obtain ⟨vs, e1, e2⟩ := z
      exact ⟨a, vs, ev, e1.sq, e2⟩
  · cases e
theorem vr_tup {Γ φ H W xs V} (v : VR Γ φ H W (.tup xs) V) : ∃ p vs, V = .ref p ∧ SqT Γ.K H p vs ∧ VRs Γ φ H W xs vs := by
  simp only [VR] at v
  exact v
theorem vr_int {Γ φ H W i V} (v : VR Γ φ H W (.int i) V) : V = .int i := v
theorem vr_bl {Γ φ H W i V} (v : VR Γ φ H W (.bl i) V) : V = .bl i := v
theorem vr_str {Γ φ H W i V} (v : VR Γ φ H W (.str i) V) : V = .str i := v
theorem vr_non {Γ φ H W V} (v : VR Γ φ H W .non V) : V = .non := v
/-- a new tuple -/
theorem new_tup {C : Ct} {φ σ H h xs vs} (r : HR C.Γ φ H (C.W σ H) h) (q : VRs C.Γ φ H (C.W σ H) xs vs) {p : Addr} (n : H p = none) {k : V → Hp → Prop}
    (po : Po C φ σ H (.ok (.tup xs) h) fun v φ' _ H' => ∀ V, VR C.Γ φ' H' (C.W σ H') v V → k V H') : k (.ref p) (upd H p (.tup vs)) := by
  have s := stp_new (φ := φ) (o := HO.tup vs) n
  refine po _ _ s (r.new n (Ct.wm s)) _ ?_
  simp only [VR]
  exact ⟨p, vs, rfl, SqT.of upd_same, VRs.mono s (Ct.wm s) _ _ q⟩

/-- an operator by the evaluator's values -/
def rV (C : Ct) (f : PV → PV → Hh → Rz PV) : R2 := fun V1 V2 H Q => ∃ σ φ ρ h x y, Rl C φ h ρ σ H ∧ VR C.Γ φ H (C.W σ H) x V1 ∧ VR C.Γ φ H (C.W σ H) y V2 ∧ Po C φ σ H (f x y h) fun v φ' _ H' => ∀ V, VR C.Γ φ' H' (C.W σ H') v V → Q V H'

theorem b2_eq (b : Bool) : b2 b = b2i b := by cases b <;> rfl
section
variable {X : Cx}
theorem op_fdivG : OpR X (binaryOp .FloorDiv) (rI (fun _ j => DivOk j) fun i j => .int (i.fdiv j)) := opI fun i j _ _ _ _ _ hc q =>
  floordiv_int hc.1 q (.inl (PyProof.noPylong_of_log2 hc.2))
theorem bits_le (i : Int) : Builtin.Int.intBits i ≤ i.natAbs.log2 + 1 := by
  unfold Builtin.Int.intBits
  split <;> omega
theorem op_powG : OpR X (binaryOp .Pow) (rI PowOk fun i j => .int (i ^ j.toNat)) := opI fun i j _ _ _ _ _ hc q => by
  obtain ⟨h0, h1⟩ := hc
  refine pow_int h0 ?_ q
  have h2 := bits_le i
  have e : ((j.toNat : Nat) : Int) = j := Int.toNat_of_nonneg h0
  have h3 : (Builtin.Int.intBits i * j.toNat : Nat) ≤ 134217728 := Nat.le_trans (Nat.mul_le_mul_right _ h2) h1
  rw [← e]
  have h4 : ((Builtin.Int.intBits i * j.toNat : Nat) : Int) ≤ (134217728 : Int) := Int.ofNat_le.mpr h3
  rw [Int.natCast_mul] at h4
  exact h4
theorem op_sub_bl : OpR X (binaryOp .Sub) (fun x y H Q => ∃ p q, x = .bl p ∧ y = .bl q ∧ Q (.int (b2 p - b2 q)) H) := by
  intro pins s σ H x y v u Q I rx ry h
  obtain ⟨p, q, rfl, rfl, z⟩ := h
  cases rx
  cases ry
  rw [b2_eq, b2_eq] at z
  exact sub_bool ⟨.int (b2i p - b2i q), H, I.tok _, ⟨_, rfl⟩, z⟩
end
theorem Po.if_ {α : Type} {C : Ct} {φ σ H} {c : Prop} [Decidable c] {r : Rz α} {k} (p : Po C φ σ H (if c then r else .err) k) : c ∧ Po C φ σ H r k := by
  by_cases h : c
  · rw [if_pos h] at p
    exact ⟨h, p⟩
  · rw [if_neg h] at p
    exact p.elim
theorem op_binV {C : Ct} (hK : C.X.K = C.Γ.K) (op : Operator) : OpR C.X (binaryOp op) (rV C (binV op)) := by
  intro pins s σ' H V1 V2 v u Q I r1 r2 hh
  obtain ⟨σ, φ, ρ, h, x, y, rl, vx, vy, po⟩ := hh
  unfold binV at po
  split at po
  · obtain rfl := vr_int vx; obtain rfl := vr_int vy
    exact op_add pins s σ' H _ _ v u Q I r1 r2 ⟨_, _, rfl, rfl, po.ok' rl.hr _ rfl⟩
  · obtain rfl := vr_int vx; obtain rfl := vr_int vy
    exact op_sub pins s σ' H _ _ v u Q I r1 r2 ⟨_, _, rfl, rfl, po.ok' rl.hr _ rfl⟩
  · obtain ⟨c, po⟩ := po.if_
    obtain rfl := vr_int vx; obtain rfl := vr_int vy
    exact op_mulW pins s σ' H _ _ v u Q I r1 r2 ⟨_, _, rfl, rfl, c, po.ok' rl.hr _ rfl⟩
  · obtain ⟨c, po⟩ := po.if_
    obtain rfl := vr_int vx; obtain rfl := vr_int vy
    exact op_fdivG pins s σ' H _ _ v u Q I r1 r2 ⟨_, _, rfl, rfl, c, po.ok' rl.hr _ rfl⟩
  · obtain ⟨c, po⟩ := po.if_
    obtain rfl := vr_int vx; obtain rfl := vr_int vy
    exact op_modN pins s σ' H _ _ v u Q I r1 r2 ⟨_, _, rfl, rfl, c, po.ok' rl.hr _ rfl⟩
  · obtain ⟨c, po⟩ := po.if_
    obtain rfl := vr_int vx; obtain rfl := vr_int vy
    exact op_powG pins s σ' H _ _ v u Q I r1 r2 ⟨_, _, rfl, rfl, c, po.ok' rl.hr _ rfl⟩
  · obtain ⟨c, po⟩ := po.if_
    obtain rfl := vr_int vx; obtain rfl := vr_int vy
    exact op_shl pins s σ' H _ _ v u Q I r1 r2 ⟨_, _, rfl, rfl, c, po.ok' rl.hr _ rfl⟩
  · obtain rfl := vr_bl vx; obtain rfl := vr_bl vy
    exact op_sub_bl pins s σ' H _ _ v u Q I r1 r2 ⟨_, _, rfl, rfl, po.ok' rl.hr _ rfl⟩
  · obtain ⟨c, po⟩ := po.if_
    obtain ⟨p, vs, e1, s1, q1⟩ := vr_tup vx
    obtain ⟨p', vs', e2, s2, q2⟩ := vr_tup vy
    subst e1
    subst e2
    refine op_catA pins s σ' H _ _ v u Q I r1 r2 ⟨p, p', vs, vs', rfl, rfl, by rw [hK]; exact s1, by rw [hK]; exact s2, by rw [q1.len, q2.len]; exact c, fun e => ?_, fun e e' => ?_, fun e e' t nt => new_tup rl.hr (q1.app q2) nt po⟩
    · refine po.ok' rl.hr _ ?_
      simp only [VR]
      refine ⟨p', vs', rfl, s2, ?_⟩
      have := q1.app q2
      rw [e] at this
      exact this
    · refine po.ok' rl.hr _ ?_
      simp only [VR]
      refine ⟨p, vs, rfl, s1, ?_⟩
      have := q1.app q2
      rw [e', List.append_nil] at this
      exact this
  · split at po
    · rename_i xs ys e1 e2
      obtain ⟨c, po⟩ := po.if_
      obtain ⟨a, vs, ea, _, _, ha, qa⟩ := rl.hr.isFl e1 vx
      obtain ⟨b, us, eb, _, _, hb, qb⟩ := rl.hr.isFl e2 vy
      subst ea
      subst eb
      exact op_cat pins s σ' H _ _ v u Q I r1 r2 ⟨a, b, vs, us, rfl, rfl, ha, hb, by rw [qa.len, qb.len]; exact c, fun p n => po.newL rl.hr (qa.app qb) n _ (ref_add rl.hr.len)⟩
    · exact po.elim
  · split at po
    · rename_i xs e1
      obtain ⟨⟨c0, c1, c2⟩, po⟩ := po.if_
      obtain ⟨a, vs, ea, _, _, ha, qa⟩ := rl.hr.isFl e1 vx
      subst ea
      obtain rfl := vr_int vy
      exact op_rep pins s σ' H _ _ v u Q I r1 r2 ⟨a, _, vs, rfl, rfl, ha, by omega, by omega, by rw [qa.len]; exact c2, fun p n => po.newL rl.hr (qa.rep _) n _ (ref_add rl.hr.len)⟩
    · exact po.elim
  · exact po.elim

/-! ### values as data -/
theorem ofK {X : Cx} {K : PySem.W.Frag} (h : X.K = K) {H p xs} (s : SqT K H p xs) : SqT X.K H p xs := by rw [h]; exact s
theorem ofKL {X : Cx} {K : PySem.W.Frag} (h : X.K = K) {H p xs} (s : SqL K H p xs) : SqL X.K H p xs := by rw [h]; exact s
section
variable {X : Cx} {pins : List (Addr × Obj)} {σ : L2.St} {H : Hp} {s : Shared} {Γ : Gm} {φ : List Addr} {W : Cw} {h : Hh}
mutual
theorem reads_val (hK : X.K = Γ.K) (I : Inv X pins σ H s) (g : Nat → Option PyData) (hg : ∀ n d a, g n = some d → φ[n]? = some a → ∃ as, Reads s.heap (.ref a) d as ∧ ∀ kvs, d = .dict kvs → sysModules ∉ as) :
    ∀ (x : PV) (d : PyData) (V : V) (u : Value), PV.data g x = some d → VR Γ φ H W x V → RelV V u → ∃ as, Reads s.heap u d as ∧ ∀ kvs, d = .dict kvs → sysModules ∉ as
  | .non, d, V, u, e, v, r => by
    obtain rfl := vr_non v
    cases e
    cases r
    exact ⟨[], .none, fun _ z => nomatch z⟩
  | .bl b, d, V, u, e, v, r => by
    obtain rfl := vr_bl v
    cases e
    cases r
    exact ⟨[], .bool b, fun _ z => nomatch z⟩
  | .int i, d, V, u, e, v, r => by
    obtain rfl := vr_int v
    cases e
    obtain ⟨t, rfl⟩ := r
    exact ⟨[], .int i t, fun _ z => nomatch z⟩
  | .str z, d, V, u, e, v, r => by
    obtain rfl := vr_str v
    cases e
    obtain ⟨t, rfl⟩ := r
    exact ⟨[], .str z t, fun _ z => nomatch z⟩
  | .tup xs, d, V, u, e, v, r => by
    obtain ⟨p, vs, rfl, st, q⟩ := vr_tup v
    cases r
    simp only [PV.data] at e
    split at e
    · rename_i ds ed
      cases e
      obtain ⟨its, rv, ⟨o, ho, hc, n, hd⟩, _⟩ := I.tuple (ofK hK st)
      obtain ⟨as, h1⟩ := reads_vals hK I g hg xs ds vs its ed q rv
      exact ⟨as, .tuple ho hc hd h1, fun _ z => nomatch z⟩
    · cases e
  | .ref n, d, V, u, e, v, r => by
    simp only [VR] at v
    obtain ⟨a, ea, rfl⟩ := v
    cases r
    exact hg n d a e ea
  | .exc _ c x, d, V, u, e, v, r => by cases e
  | .clo k xs, d, V, u, e, v, r => by cases e
theorem reads_vals (hK : X.K = Γ.K) (I : Inv X pins σ H s) (g : Nat → Option PyData) (hg : ∀ n d a, g n = some d → φ[n]? = some a → ∃ as, Reads s.heap (.ref a) d as ∧ ∀ kvs, d = .dict kvs → sysModules ∉ as) :
    ∀ (xs : List PV) (ds : List PyData) (vs : List V) (us : List Value), PV.datas g xs = some ds → VRs Γ φ H W xs vs → Vals vs us → ∃ as, ReadsAll s.heap us ds as
  | [], ds, vs, us, e, v, r => by
    have ev : vs = [] := v
    subst ev
    cases e
    cases r
    exact ⟨[], .nil⟩
  | x :: xs, ds, vs, us, e, v, r => by
    obtain ⟨y, ys, rfl, v1, v2⟩ := v
    cases r with
    | cons r1 r2 =>
      simp only [PV.datas] at e
      split at e
      · rename_i d ds' e1 e2
        cases e
        obtain ⟨as, a1, a2⟩ := reads_val hK I g hg x d y _ e1 v1 r1
        obtain ⟨bs, b1⟩ := reads_vals hK I g hg xs ds' ys _ e2 v2 r2
        exact ⟨as ++ bs, .cons a1 b1⟩
      · cases e
end
theorem reads_at (hK : X.K = Γ.K) (I : Inv X pins σ H s) (hr : HR Γ φ H W h) : ∀ (k : Nat) (n : Nat) (d : PyData) (a : Addr), dataAt h k n = some d → φ[n]? = some a → ∃ as, Reads s.heap (.ref a) d as ∧ ∀ kvs, d = .dict kvs → sysModules ∉ as
  | 0, n, d, a, e, _ => by cases e
  | k + 1, n, d, a, e, ea => by
    unfold dataAt at e
    split at e
    · rename_i f xs q
      split at e
      · rename_i ds ed
        cases e
        have sq : ∃ vs, SqL Γ.K H a vs ∧ VRs Γ φ H W xs vs := by
          have z := hr.at_ n _ a q ea
          cases f with
          | false =>
            obtain ⟨vs, e1, e2⟩ := z
            exact ⟨vs, .of e1, e2⟩
          | true =>
            obtain ⟨vs, e1, e2⟩ := z
            exact ⟨vs, e1.sq, e2⟩
        obtain ⟨vs, e1, e2⟩ := sq
        obtain ⟨its, rv, ⟨o, m, ho, hc, _, hd⟩, _⟩ := I.list (ofKL hK e1)
        obtain ⟨as, a1⟩ := reads_vals hK I (dataAt h k) (fun n d a e ea => reads_at hK I hr k n d a e ea) xs ds vs its ed e2 rv
        exact ⟨a :: as, .list ho hc hd a1, fun _ z => nomatch z⟩
      · cases e
    · rename_i q
      cases e
      have z : H a = some (.dK []) := hr.at_ n _ a q ea
      obtain ⟨_, hS, vs, r, o, es, ep, e1, e2, e3, e4, e5⟩ := I.hok a _ z
      cases r
      have hl : es.toList = [] := by
        generalize es.toList = l at e5
        cases e5.1
        rfl
      refine ⟨_, .dict (kvs := []) e1 e2.1 e3 (as := []) (bs := []) (by rw [hl]; exact .nil) (by rw [hl]; exact .nil), fun _ _ z => ?_⟩
      have z' : sysModules = a := by simpa using z
      rw [← z', beq_self_eq_true] at hS
      cases hS
    · cases e
end

theorem reads_of {X : Cx} {pins : List (Addr × Obj)} {σ : L2.St} {H : Hp} {s : Shared} {Γ : Gm} {φ : List Addr} {W : Cw} {h : Hh} (hK : X.K = Γ.K) (I : Inv X pins σ H s) (hr : HR Γ φ H W h) {x : PV} {d : PyData} {V : V} {u : Value}
    (e : dataOf h x = some d) (v : VR Γ φ H W x V) (r : RelV V u) : ∃ as, Reads s.heap u d as ∧ ∀ kvs, d = .dict kvs → sysModules ∉ as :=
  reads_val hK I (dataAt h 6) (fun n d a e ea => reads_at hK I hr 6 n d a e ea) x d V u e v r
theorem isNon_iff {Γ φ H W x V} (v : VR Γ φ H W x V) : decide (V = .non) = isNon x := by
  cases x with
  | non => obtain rfl := vr_non v; rfl
  | bl b => obtain rfl := vr_bl v; rfl
  | int b => obtain rfl := vr_int v; rfl
  | str b => obtain rfl := vr_str v; rfl
  | tup b => obtain ⟨p, vs, rfl, _⟩ := vr_tup v; rfl
  | ref b =>
    simp only [VR] at v
    obtain ⟨p, _, rfl⟩ := v
    rfl
  | exc c b =>
    simp only [VR] at v
    obtain ⟨p, _, _, rfl, _⟩ := v
    rfl
  | clo c b =>
    simp only [VR] at v
    obtain ⟨p, _, _, _, rfl, _⟩ := v
    rfl
theorem flat_eq {Γ φ H W x V} (v : VR Γ φ H W x V) (f : flatP x = true) : flatV V = true ∧ ∀ y U, VR Γ φ H W y U → flatP y = true → eqV U V = eqF y x := by
  cases x with
  | int i =>
    obtain rfl := vr_int v
    refine ⟨rfl, fun y U u g => ?_⟩
    cases y with
    | int j => obtain rfl := vr_int u; rfl
    | str j => obtain rfl := vr_str u; rfl
    | _ => cases g
  | str i =>
    obtain rfl := vr_str v
    refine ⟨rfl, fun y U u g => ?_⟩
    cases y with
    | int j => obtain rfl := vr_int u; rfl
    | str j => obtain rfl := vr_str u; rfl
    | _ => cases g
  | _ => cases f
theorem flat_all {Γ φ H W} : ∀ {xs vs}, VRs Γ φ H W xs vs → xs.all flatP = true → vs.all flatV = true
  | [], vs, h, _ => by
    have e : vs = [] := h
    rw [e]; rfl
  | x :: xs, vs, h, f => by
    obtain ⟨v, r, rfl, h1, h2⟩ := h
    rw [List.all_cons, Bool.and_eq_true] at f ⊢
    exact ⟨(flat_eq h1 f.1).1, flat_all h2 f.2⟩
theorem flat_any {Γ φ H W x V} (v : VR Γ φ H W x V) (fx : flatP x = true) : ∀ {xs vs}, VRs Γ φ H W xs vs → xs.all flatP = true → inV V vs = xs.any fun y => eqF y x
  | [], vs, h, _ => by
    have e : vs = [] := h
    rw [e]; rfl
  | y :: xs, vs, h, f => by
    obtain ⟨u, r, rfl, h1, h2⟩ := h
    rw [List.all_cons, Bool.and_eq_true] at f
    have ih := flat_any v fx h2 f.2
    unfold inV at ih ⊢
    rw [List.any_cons, List.any_cons, ih, (flat_eq v fx).2 y u h1 f.1]
theorem op_cmpV {C : Ct} (hK : C.X.K = C.Γ.K) (hu : C.X.A.units + 65 < cLine) (op : CmpOp) : OpR C.X (compareOp op) (rV C (cmpV op)) := by
  intro pins s σ' H V1 V2 v u Q I r1 r2 hh
  obtain ⟨σ, φ, ρ, h, x, y, rl, vx, vy, po⟩ := hh
  have hu2 : C.X.A.units + 64 < cLine := by omega
  have fin : ∀ {k k' : Bool}, Po C φ σ H (.ok (.bl k) h) (fun v φ' _ H' => ∀ V, VR C.Γ φ' H' (C.W σ H') v V → Q V H') → k = k' → EP C.X pins σ' Q (.bool k') s := fun {k k'} p e => by
    subst e
    exact ⟨.bl k, H, I, rfl, p.ok' rl.hr _ rfl⟩
  unfold cmpV at po
  split at po
  · obtain rfl := vr_int vx; obtain rfl := vr_int vy
    exact op_lt pins s σ' H _ _ v u Q I r1 r2 ⟨_, _, rfl, rfl, po.ok' rl.hr _ rfl⟩
  · obtain rfl := vr_int vx; obtain rfl := vr_int vy
    exact op_le pins s σ' H _ _ v u Q I r1 r2 ⟨_, _, rfl, rfl, po.ok' rl.hr _ rfl⟩
  · obtain rfl := vr_int vx; obtain rfl := vr_int vy
    exact op_gt pins s σ' H _ _ v u Q I r1 r2 ⟨_, _, rfl, rfl, po.ok' rl.hr _ rfl⟩
  · obtain rfl := vr_int vx; obtain rfl := vr_int vy
    exact op_ge pins s σ' H _ _ v u Q I r1 r2 ⟨_, _, rfl, rfl, po.ok' rl.hr _ rfl⟩
  · obtain rfl := vr_non vy
    refine op_isN pins s σ' H _ _ v u Q I r1 r2 ⟨rfl, ?_⟩
    rw [isNon_iff vx]
    exact po.ok' rl.hr _ rfl
  · obtain rfl := vr_non vy
    refine op_notN pins s σ' H _ _ v u Q I r1 r2 ⟨rfl, ?_⟩
    rw [isNon_iff vx]
    exact po.ok' rl.hr _ rfl
  · obtain rfl := vr_int vx; obtain rfl := vr_int vy
    obtain ⟨t, rfl⟩ := r1
    obtain ⟨t', rfl⟩ := r2
    exact eq_int (fin po (Bool.beq_eq_decide_eq _ _).symm)
  · obtain rfl := vr_int vx; obtain rfl := vr_int vy
    obtain ⟨t, rfl⟩ := r1
    obtain ⟨t', rfl⟩ := r2
    exact ne_int (fin po (congrArg not (Bool.beq_eq_decide_eq _ _).symm))
  · obtain rfl := vr_str vx; obtain rfl := vr_str vy
    obtain ⟨t, rfl⟩ := r1
    obtain ⟨t', rfl⟩ := r2
    exact eq_str (fin po (Bool.beq_eq_decide_eq _ _).symm)
  · obtain rfl := vr_str vx; obtain rfl := vr_str vy
    obtain ⟨t, rfl⟩ := r1
    obtain ⟨t', rfl⟩ := r2
    exact ne_str (fin po (congrArg not (Bool.beq_eq_decide_eq _ _).symm))
  · obtain rfl := vr_bl vx; obtain rfl := vr_bl vy
    cases r1
    cases r2
    exact eq_bool (fin po (Bool.beq_eq_decide_eq _ _).symm)
  · obtain rfl := vr_bl vx; obtain rfl := vr_bl vy
    cases r1
    cases r2
    exact ne_bool (fin po (congrArg not (Bool.beq_eq_decide_eq _ _).symm))
  · split at po
    · rename_i b eb
      unfold eqD at eb
      split at eb
      · rename_i d e hd he
        split at eb
        · rename_i hs
          rw [Bool.and_eq_true] at hs
          cases eb
          obtain ⟨as, q1, _⟩ := reads_of hK I rl.hr hd vx r1
          obtain ⟨bs, q2, _⟩ := reads_of hK I rl.hr he vy r2
          exact SeqAt.compareEq_shaped q1 q2 hs.1 hs.2 hu2 (fin po rfl)
        · cases eb
      · cases eb
    · exact po.elim
  · split at po
    · rename_i b eb
      unfold eqD at eb
      split at eb
      · rename_i d e hd he
        split at eb
        · rename_i hs
          rw [Bool.and_eq_true] at hs
          cases eb
          obtain ⟨as, q1, _⟩ := reads_of hK I rl.hr hd vx r1
          obtain ⟨bs, q2, _⟩ := reads_of hK I rl.hr he vy r2
          exact SeqAt.compareNe_shaped q1 q2 hs.1 hs.2 hu2 (fin po rfl)
        · cases eb
      · cases eb
    · exact po.elim
  · obtain ⟨c, po⟩ := po.if_
    rw [Bool.and_eq_true] at c
    obtain ⟨p, vs, rfl, st, q⟩ := vr_tup vy
    refine op_in_seq pins s σ' H _ _ v u Q I r1 r2 ⟨p, vs, rfl, .inr (ofK hK st), (flat_eq vx c.1).1, flat_all q c.2, ?_⟩
    rw [if_neg Bool.false_ne_true, flat_any vx c.1 q c.2]
    exact po.ok' rl.hr _ rfl
  · obtain ⟨c, po⟩ := po.if_
    rw [Bool.and_eq_true] at c
    obtain ⟨p, vs, rfl, st, q⟩ := vr_tup vy
    refine op_notIn_seq pins s σ' H _ _ v u Q I r1 r2 ⟨p, vs, rfl, .inr (ofK hK st), (flat_eq vx c.1).1, flat_all q c.2, ?_⟩
    rw [if_pos rfl, flat_any vx c.1 q c.2]
    exact po.ok' rl.hr _ rfl
  · exact po.elim
end EV
set_option linter.all false
set_option maxRecDepth 100000
set_option maxHeartbeats 1000000
/-! Ev5: subscripts, slices, truth, built-in functions, by values. -/
namespace EV
open PySem PySem.Spec PyProof.Rows L2

theorem VRs.atI {Γ φ H W} {xs : List PV} {vs : List V} {i : Int} {x : PV} (q : VRs Γ φ H W xs vs) (e : atI xs i = some x) : ∃ v, L2.atI vs i = some v ∧ VR Γ φ H W x v := by
  unfold L2.atI at e ⊢
  rw [q.len]
  cases h : ixN xs.length i with
  | none => rw [h] at e; cases e
  | some j =>
    rw [h] at e
    exact q.get e
theorem VRs.cut {Γ φ H W} {xs : List PV} {vs : List V} (q : VRs Γ φ H W xs vs) (lo hi : Option Int) : VRs Γ φ H W (cutP xs lo hi) (cutV vs lo hi) := by
  unfold cutP cutV
  rw [q.len]
  exact (q.drop _).take _
theorem ix_V {C : Ct} (hK : C.X.K = C.Γ.K) : IxR C.X (rV C idxV) := by
  intro e1 e2 pins s σ' H V1 V2 v u Q I r1 r2 hh hs
  obtain ⟨σ, φ, ρ, h, x, y, rl, vx, vy, po⟩ := hh
  unfold idxV at po
  split at po
  · obtain ⟨p, vs, rfl, st, q⟩ := vr_tup vx
    obtain rfl := vr_int vy
    split at po
    · rename_i w e
      obtain ⟨z, e1, e2⟩ := q.atI e
      exact ix_tup _ _ pins s σ' H _ _ v u Q I r1 r2 ⟨p, vs, _, z, rfl, rfl, ofK hK st, e1, po.ok' rl.hr _ e2⟩ hs
    · exact po.elim
  · obtain rfl := vr_int vy
    split at po
    · rename_i xs e
      obtain ⟨a, vs, rfl, sl, q⟩ := rl.hr.getL e vx
      split at po
      · rename_i w e'
        obtain ⟨z, e1, e2⟩ := q.atI e'
        exact ix_list _ _ pins s σ' H _ _ v u Q I r1 r2 ⟨a, vs, _, z, rfl, rfl, ofKL hK sl, e1, po.ok' rl.hr _ e2⟩ hs
      · exact po.elim
    · exact po.elim
  · exact po.elim
/-- a slice by the evaluator's values -/
def rSV (C : Ct) : V → Option Int → Option Int → Hp → VK → Prop := fun V1 lo hi H Q => ∃ σ φ ρ h x, Rl C φ h ρ σ H ∧ VR C.Γ φ H (C.W σ H) x V1 ∧ Po C φ σ H (slcV x lo hi h) fun v φ' _ H' => ∀ V, VR C.Γ φ' H' (C.W σ H') v V → Q V H'
theorem sl_V {C : Ct} (hK : C.X.K = C.Γ.K) : SlR C.X (rSV C) := by
  intro pins s σ' H V1 v vl vu lo hi sl Q I rx hs pl pu hh
  obtain ⟨σ, φ, ρ, h, x, rl, vx, po⟩ := hh
  unfold slcV at po
  split at po
  · obtain ⟨p, vs, rfl, st, q⟩ := vr_tup vx
    refine sl_tupA pins s σ' H _ v vl vu lo hi sl Q I rx hs pl pu ⟨p, vs, rfl, ofK hK st, fun e => ?_, fun _ t nt => new_tup rl.hr (q.cut lo hi) nt po⟩
    refine po.ok' rl.hr _ ?_
    simp only [VR]
    refine ⟨p, vs, rfl, st, ?_⟩
    have c := q.cut lo hi
    have ev : cutV vs lo hi = vs := by
      unfold cutV
      rw [e.1, e.2]
      simp
    rw [ev] at c
    exact c
  · split at po
    · rename_i xs e
      obtain ⟨a, vs, rfl, sq, q⟩ := rl.hr.getL e vx
      exact sl_list pins s σ' H _ v vl vu lo hi sl Q I rx hs pl pu ⟨a, vs, rfl, ofKL hK sq, fun p n => po.newL rl.hr (q.cut lo hi) n _ (ref_add rl.hr.len)⟩
    · exact po.elim
  · exact po.elim
theorem isEmpty_VR {Γ φ H W} {xs : List PV} {vs : List V} (q : VRs Γ φ H W xs vs) : vs.isEmpty = xs.isEmpty := by
  have := q.len
  cases vs <;> cases xs <;> first | rfl | (simp at this)
/-- a value's truth -/
theorem tru_V {Γ : Gm} {K : PySem.W.Frag} (hK : K = Γ.K) {φ H W h x V k h'} (hr : HR Γ φ H W h) (v : VR Γ φ H W x V) (e : truV x h = .ok k h') : TruV K V H k ∧ h' = h := by
  subst hK
  unfold truV at e
  split at e
  · obtain rfl := vr_non v
    cases e
    exact ⟨rfl, rfl⟩
  · obtain rfl := vr_bl v
    cases e
    exact ⟨rfl, rfl⟩
  · obtain rfl := vr_int v
    cases e
    exact ⟨rfl, rfl⟩
  · obtain ⟨p, vs, rfl, st, q⟩ := vr_tup v
    cases e
    exact ⟨.inr (.inl ⟨vs, st, by rw [isEmpty_VR q]⟩), rfl⟩
  · split at e
    · rename_i xs e1
      obtain ⟨a, vs, rfl, sq, q⟩ := hr.getL e1 v
      cases e
      exact ⟨.inl ⟨vs, sq, by rw [isEmpty_VR q]⟩, rfl⟩
    · cases e
  · cases e
theorem truV_ok {x : PV} {h : Hh} : (∃ k, truV x h = .ok k h) ∨ truV x h = .err := by
  unfold truV
  split
  · exact .inl ⟨_, rfl⟩
  · exact .inl ⟨_, rfl⟩
  · exact .inl ⟨_, rfl⟩
  · exact .inl ⟨_, rfl⟩
  · split
    · exact .inl ⟨_, rfl⟩
    · exact .inr rfl
  · exact .inr rfl
/-- a built-in by the evaluator's values -/
def rC (C : Ct) (f : List PV → Hh → Rz PV) : List V → Hp → VK → Prop := fun Vs H Q => ∃ σ φ ρ h xs, Rl C φ h ρ σ H ∧ VRs C.Γ φ H (C.W σ H) xs Vs ∧ Po C φ σ H (f xs h) fun v φ' _ H' => ∀ V, VR C.Γ φ' H' (C.W σ H') v V → Q V H'
theorem vrs1 {Γ φ H W x Vs} (q : VRs Γ φ H W [x] Vs) : ∃ v, Vs = [v] ∧ VR Γ φ H W x v := by
  obtain ⟨v, r, rfl, h, e⟩ := q
  have e' : r = [] := e
  rw [e']
  exact ⟨v, rfl, h⟩
theorem vrs2 {Γ φ H W x y Vs} (q : VRs Γ φ H W [x, y] Vs) : ∃ v u, Vs = [v, u] ∧ VR Γ φ H W x v ∧ VR Γ φ H W y u := by
  obtain ⟨v, r, rfl, h, e⟩ := q
  obtain ⟨u, rfl, h'⟩ := vrs1 e
  exact ⟨v, u, rfl, h, h'⟩
theorem intsP_of {Γ φ H W} : ∀ {xs vs l}, VRs Γ φ H W xs vs → intsP xs = some l → vs = l.map V.int
  | [], vs, l, q, e => by
    have ev : vs = [] := q
    cases e
    exact ev
  | x :: xs, vs, l, q, e => by
    obtain ⟨v, r, rfl, h, q'⟩ := q
    unfold intsP at e
    split at e
    · cases ‹_ :: _ = []›
    · rename_i i r' e1
      cases e1
      split at e
      · rename_i l' e2
        cases e
        obtain rfl := vr_int h
        rw [intsP_of q' e2]
        rfl
      · cases e
    · cases e
theorem blsP_of {Γ φ H W} : ∀ {xs vs l}, VRs Γ φ H W xs vs → blsP xs = some l → vs = l.map V.bl
  | [], vs, l, q, e => by
    have ev : vs = [] := q
    cases e
    exact ev
  | x :: xs, vs, l, q, e => by
    obtain ⟨v, r, rfl, h, q'⟩ := q
    unfold blsP at e
    split at e
    · cases ‹_ :: _ = []›
    · rename_i i r' e1
      cases e1
      split at e
      · rename_i l' e2
        cases e
        obtain rfl := vr_bl h
        rw [blsP_of q' e2]
        rfl
      · cases e
    · cases e
def BI.val : BI → Option Value
  | .len => some (.builtin "len")
  | .int => some (.type "int")
  | .abs => some (.builtin "abs")
  | .sum => some (.builtin "sum")
  | .all => some (.builtin "all")
  | .any => some (.builtin "any")
  | .list => some (.type "list")
  | .tuple => some (.type "tuple")
  | .max2 => some (.builtin "max")
  | .min2 => some (.builtin "min")
  | .repr => some (.builtin "repr")
  | _ => none
def BI.str : BI → Str
  | .len => "len"
  | .int => "int"
  | .abs => "abs"
  | .sum => "sum"
  | .all => "all"
  | .any => "any"
  | .list => "list"
  | .tuple => "tuple"
  | .max2 => "max"
  | .min2 => "min"
  | .repr => "repr"
  | .lrng => "list"
  | .bitl => "bit_length"
theorem vals1' {x : V} {us : List Value} (r : Vals [x] us) : ∃ u, us = [u] ∧ RelV x u := Vals.one r
theorem po_arg1 {C : Ct} {φ σ H} {f : PV → Rz PV} {xs : List PV} {k} (po : Po C φ σ H (arg1 f xs) k) : ∃ x, xs = [x] ∧ Po C φ σ H (f x) k := by
  match xs, po with
  | [x], po => exact ⟨x, rfl, po⟩
  | [], po => exact po.elim
  | _ :: _ :: _, po => exact po.elim
theorem po_arg2 {C : Ct} {φ σ H} {f : PV → PV → Rz PV} {xs : List PV} {k} (po : Po C φ σ H (arg2 f xs) k) : ∃ x y, xs = [x, y] ∧ Po C φ σ H (f x y) k := by
  match xs, po with
  | [x, y], po => exact ⟨x, y, rfl, po⟩
  | [], po => exact po.elim
  | [_], po => exact po.elim
  | _ :: _ :: _ :: _, po => exact po.elim
theorem lstV_of {Γ φ H W h} (hr : HR Γ φ H W h) {x : PV} {xs V} (e : lstV h x = some xs) (v : VR Γ φ H W x V) : ∃ a vs, V = .ref a ∧ SqL Γ.K H a vs ∧ VRs Γ φ H W xs vs := by
  cases x with
  | ref n => exact hr.getL e v
  | _ => cases e
/-- a list or a tuple: its items -/
theorem seq_of {C : Ct} {φ σ H h V k} {x : PV} {f : List PV → Rz PV} {r : Rz PV} (e : r = match x with
    | .tup xs => f xs
    | .ref n => match getL h n with
      | some xs => f xs
      | none => .err
    | _ => .err) (hr : HR C.Γ φ H (C.W σ H) h) (v : VR C.Γ φ H (C.W σ H) x V) (po : Po C φ σ H r k) : ∃ a vs xs, V = .ref a ∧ ((SqL C.Γ.K H a vs) ∨ (SqT C.Γ.K H a vs ∧ x = .tup xs)) ∧ VRs C.Γ φ H (C.W σ H) xs vs ∧ Po C φ σ H (f xs) k := by
  subst e
  split at po
  · obtain ⟨p, vs, rfl, st, q⟩ := vr_tup v
    exact ⟨p, vs, _, rfl, .inr ⟨st, rfl⟩, q, po⟩
  · split at po
    · rename_i xs e
      obtain ⟨a, vs, rfl, sq, q⟩ := hr.getL e v
      exact ⟨a, vs, xs, rfl, .inl sq, q, po⟩
    · exact po.elim
  · exact po.elim
theorem dictOk_of {d : PyData} (h : dictOk d = true) : d.hasDict = true → ∃ kvs, d = .dict kvs := by
  intro e
  cases d with
  | dict kvs => exact ⟨kvs, rfl⟩
  | _ =>
    exfalso
    have h' := h
    simp only [dictOk, e] at h'
    cases h'
theorem call_V {C : Ct} (hK : C.X.K = C.Γ.K) (hc : C.X.calm = true) (hu : C.X.A.units + 65 < cLine) (hg : C.X.A.guards = some []) (b : BI) (f : Value) (hb : b.val = some f) : CallR C.X f (rC C (bltV b)) := by
  intro pins s σ' H Vs us Q I r hh
  obtain ⟨σ, φ, ρ, h, xs, rl, q, po⟩ := hh
  cases b with
  | len =>
    cases hb
    replace po := po_arg1 (f := fun x => lenV x h) po
    obtain ⟨x, rfl, po⟩ := po
    obtain ⟨v, rfl, vx⟩ := vrs1 q
    obtain ⟨a, vs, ys, rfl, sq, q', po⟩ := seq_of (f := fun xs => .ok (.int xs.length) h) rfl rl.hr vx po
    refine call_len_seq pins s σ' H _ us Q I r ⟨a, vs, rfl, sq.imp (ofKL hK) fun z => ofK hK z.1, ?_⟩
    rw [q'.len]
    exact po.ok' rl.hr _ rfl
  | int =>
    cases hb
    replace po := po_arg1 (f := fun x => intV x h) po
    obtain ⟨x, rfl, po⟩ := po
    obtain ⟨v, rfl, vx⟩ := vrs1 q
    unfold intV at po
    split at po
    · obtain rfl := vr_int vx
      exact call_int1 pins s σ' H _ us Q I r (.inl ⟨_, rfl, po.ok' rl.hr _ rfl⟩)
    · rename_i k
      obtain rfl := vr_bl vx
      refine call_int1 pins s σ' H _ us Q I r (.inr ⟨k, rfl, ?_⟩)
      have z := po.ok' rl.hr (.int (b2 k)) rfl
      cases k <;> exact z
    · exact po.elim
  | abs =>
    cases hb
    replace po := po_arg1 (f := fun x => absV x h) po
    obtain ⟨x, rfl, po⟩ := po
    obtain ⟨v, rfl, vx⟩ := vrs1 q
    unfold absV at po
    split at po
    · obtain rfl := vr_int vx
      exact call_abs pins s σ' H _ us Q I r ⟨_, rfl, po.ok' rl.hr _ rfl⟩
    · exact po.elim
  | max2 =>
    cases hb
    replace po := po_arg2 (f := fun x y => maxV x y h) po
    obtain ⟨x, y, rfl, po⟩ := po
    obtain ⟨v, u, rfl, vx, vy⟩ := vrs2 q
    unfold maxV at po
    split at po
    · obtain rfl := vr_int vx
      obtain rfl := vr_int vy
      exact call_max2 hc pins s σ' H _ us Q I r ⟨_, _, rfl, po.ok' rl.hr _ rfl⟩
    · exact po.elim
  | min2 =>
    cases hb
    replace po := po_arg2 (f := fun x y => minV x y h) po
    obtain ⟨x, y, rfl, po⟩ := po
    obtain ⟨v, u, rfl, vx, vy⟩ := vrs2 q
    unfold minV at po
    split at po
    · obtain rfl := vr_int vx
      obtain rfl := vr_int vy
      exact call_min2 hc pins s σ' H _ us Q I r ⟨_, _, rfl, po.ok' rl.hr _ rfl⟩
    · exact po.elim
  | sum =>
    cases hb
    replace po := po_arg1 (f := fun x => sumV x h) po
    obtain ⟨x, rfl, po⟩ := po
    obtain ⟨v, rfl, vx⟩ := vrs1 q
    unfold sumV at po
    split at po
    · rename_i l e
      obtain ⟨ys, e1, e2⟩ := Option.bind_eq_some_iff.mp e
      obtain ⟨a, vs, rfl, sq, q'⟩ := lstV_of rl.hr e1 vx
      obtain rfl := intsP_of q' e2
      exact cr_sum hc pins s σ' H _ us Q I r ⟨a, l, rfl, ofKL hK sq, po.ok' rl.hr _ rfl⟩
    · exact po.elim
  | all =>
    cases hb
    replace po := po_arg1 (f := fun x => allV x h) po
    obtain ⟨x, rfl, po⟩ := po
    obtain ⟨v, rfl, vx⟩ := vrs1 q
    unfold allV at po
    split at po
    · rename_i l e
      obtain ⟨ys, e1, e2⟩ := Option.bind_eq_some_iff.mp e
      obtain ⟨a, vs, rfl, sq, q'⟩ := lstV_of rl.hr e1 vx
      obtain rfl := blsP_of q' e2
      exact cr_all hc pins s σ' H _ us Q I r ⟨a, l, rfl, ofKL hK sq, po.ok' rl.hr _ rfl⟩
    · exact po.elim
  | any =>
    cases hb
    replace po := po_arg1 (f := fun x => anyV x h) po
    obtain ⟨x, rfl, po⟩ := po
    obtain ⟨v, rfl, vx⟩ := vrs1 q
    unfold anyV at po
    split at po
    · rename_i l e
      obtain ⟨ys, e1, e2⟩ := Option.bind_eq_some_iff.mp e
      obtain ⟨a, vs, rfl, sq, q'⟩ := lstV_of rl.hr e1 vx
      obtain rfl := blsP_of q' e2
      exact cr_any hc pins s σ' H _ us Q I r ⟨a, l, rfl, ofKL hK sq, po.ok' rl.hr _ rfl⟩
    · exact po.elim
  | list =>
    cases hb
    replace po := po_arg1 (f := fun x => mkLV x h) po
    obtain ⟨x, rfl, po⟩ := po
    obtain ⟨v, rfl, vx⟩ := vrs1 q
    obtain ⟨a, vs, ys, rfl, sq, q', po⟩ := seq_of (f := fun xs => newL xs h) rfl rl.hr vx po
    exact call_list_of pins s σ' H _ us Q I r ⟨a, vs, rfl, sq.imp (ofKL hK) fun z => ofK hK z.1, fun l n => po.newL rl.hr q' n _ (ref_add rl.hr.len)⟩
  | tuple =>
    cases hb
    replace po := po_arg1 (f := fun x => mkTV x h) po
    obtain ⟨x, rfl, po⟩ := po
    obtain ⟨v, rfl, vx⟩ := vrs1 q
    obtain ⟨a, vs, ys, rfl, sq, q', po⟩ := seq_of (f := fun xs => .ok (.tup xs) h) rfl rl.hr vx po
    refine call_tuple_of pins s σ' H _ us Q I r ⟨a, vs, rfl, ?_⟩
    rcases sq with sq | ⟨sq, rfl⟩
    · exact .inl ⟨ofKL hK sq, fun l n => new_tup rl.hr q' n po⟩
    · refine .inr ⟨ofK hK sq, po.ok' rl.hr _ ?_⟩
      simp only [VR]
      exact ⟨a, vs, rfl, sq, q'⟩
  | repr =>
    cases hb
    replace po := po_arg1 (f := fun x => reprV x h) po
    obtain ⟨x, rfl, po⟩ := po
    obtain ⟨v, rfl, vx⟩ := vrs1 q
    unfold reprV at po
    split at po
    · rename_i d e
      obtain ⟨c, po⟩ := po.if_
      unfold showOk at c
      rw [Bool.and_eq_true, Bool.and_eq_true, Bool.and_eq_true] at c
      obtain ⟨⟨⟨c0, c1⟩, c2⟩, c3⟩ := c
      have c2 := of_decide_eq_true c2
      have c3 := of_decide_eq_true c3
      obtain ⟨u, rfl, ru⟩ := vals1' r
      obtain ⟨as, rd, ns⟩ := reads_of hK I rl.hr e vx ru
      have fin : ∀ t tk, EP C.X pins σ' Q (.str d.shown t) { s with toks := tk } := fun t tk => ⟨.str d.shown, H, I.tok tk, ⟨t, rfl⟩, po.ok' rl.hr _ rfl⟩
      cases rd with
      | none => exact PySem.P.repr_of_none (fin _ _)
      | bool k => exact PySem.P.repr_of_bool (fin _ _)
      | int i t => exact PySem.P.repr_of_int (of_decide_eq_true c1) (fin _ _)
      | str z t => exact PySem.P.repr_of_str (fin _ _) c2
      | list h1 h2 h3 h4 =>
        exact repr_of_reads' (.list h1 h2 h3 h4) c1 (fun z => let ⟨_, e⟩ := dictOk_of c0 z; nomatch e) hg (by omega) (fun _ _ z => z) (fun h' t tk k => ⟨.str _, H, I.kept k, ⟨t, rfl⟩, po.ok' rl.hr _ rfl⟩) c2
      | tuple h1 h2 h3 h4 =>
        exact repr_of_reads' (.tuple h1 h2 h3 h4) c1 (fun z => let ⟨_, e⟩ := dictOk_of c0 z; nomatch e) hg (by omega) (fun _ _ z => z) (fun h' t tk k => ⟨.str _, H, I.kept k, ⟨t, rfl⟩, po.ok' rl.hr _ rfl⟩) c2
      | dict h1 h2 h3 h4 h5 =>
        exact repr_of_reads' (.dict h1 h2 h3 h4 h5) c1 (fun _ => ns _ rfl) hg (by omega) (fun _ _ z => z) (fun h' t tk k => ⟨.str _, H, I.kept k, ⟨t, rfl⟩, po.ok' rl.hr _ rfl⟩) c2
    · exact po.elim
  | lrng => cases hb
  | bitl => cases hb
end EV
set_option linter.all false
set_option maxRecDepth 100000
set_option maxHeartbeats 1000000
/-! Ev6: expressions, case by case. -/
namespace EV
open PySem PySem.Spec PyProof.Rows L2

section
variable {C : Ct}
/-- a value at once -/
theorem Po.val {C : Ct} {φ σ H} {v : PV} {h} {V : L2.V} {Q : L2.V → Hp → Prop} (p : Po C φ σ H (.ok v h) fun v φ' _ H' => ∀ V, VR C.Γ φ' H' (C.W σ H') v V → Q V H') (hr : HR C.Γ φ H (C.W σ H) h) (r : VR C.Γ φ H (C.W σ H) v V) : Q V H := p.ok' hr V r
theorem se_var {i : Nat} {x : Str} {pos : Pos} (hN : C.X.N[i]? = some x) (hv : Vis C.X.env.scope x) (hd : (x == ("__debug__" : Str)) = false) (hcd : (x == ("__classdict__" : Str)) = false) :
    PE C.X (.Name x pos) (tE C fun ρ h => match slot ρ i with | some v => .ok v h | none => .err) := by
  refine (pe_var hN hv hd hcd).imp fun σ H Q ⟨φ, ρ, h, rl, po⟩ => ?_
  dsimp only at po
  cases e : slot ρ i with
  | none => rw [e] at po; exact po.elim
  | some v =>
    rw [e] at po
    obtain ⟨V, e1, e2⟩ := rl.re.get i v (slot_some e)
    exact ⟨V, e1, po.val rl.hr e2⟩
theorem se_int {i : Int} {j pos} : PE C.X (.Constant (.int i) j pos) (tE C fun _ h => .ok (.int i) h) := pe_int.imp fun σ H Q ⟨φ, ρ, h, rl, po⟩ => po.val (V := .int i) rl.hr rfl
theorem se_bl {i : Bool} {j pos} : PE C.X (.Constant (.bool i) j pos) (tE C fun _ h => .ok (.bl i) h) := pe_bl.imp fun σ H Q ⟨φ, ρ, h, rl, po⟩ => po.val (V := .bl i) rl.hr rfl
theorem se_non {j pos} : PE C.X (.Constant .none j pos) (tE C fun _ h => .ok .non h) := pe_non.imp fun σ H Q ⟨φ, ρ, h, rl, po⟩ => po.val (V := .non) rl.hr rfl
theorem se_str {i : Str} {j pos} : PE C.X (.Constant (.str i) j pos) (tE C fun _ h => .ok (.str i) h) := pe_str.imp fun σ H Q ⟨φ, ρ, h, rl, po⟩ => po.val (V := .str i) rl.hr rfl
theorem se_glb {x : Str} {pos : Pos} {u : Value} {V : V} {v : PV} (hg : Gl C.X x) (hm : C.X.mg x = some u) (r : RelV V u) (hv : ∀ φ H W, VR C.Γ φ H W v V) (hd : (x == ("__debug__" : Str)) = false) {o : Option PV} (ho : o = some v) :
    PE C.X (.Name x pos) (tE C fun _ h => match o with | some v => .ok v h | none => .err) := by
  subst ho
  exact (pe_glob hg hm r hd).imp fun σ H Q ⟨φ, ρ, h, rl, po⟩ => po.val rl.hr (hv _ _ _)

/-! ### arguments, displays -/
theorem sa_nil : PA C.X [] (tA C fun _ h => .ok [] h) := pa_nil.imp fun σ H Q ⟨φ, ρ, h, rl, po⟩ => po.ok' rl.hr [] rfl
def isStar : Expr → Bool
  | .Starred _ _ => true
  | _ => false
theorem starEach_cons {e : Expr} {es : List Expr} {env : Env} (h : isStar e = false) : starEach (e :: es) env = (false, eval e env) :: starEach es env := by
  cases e <;> first | rfl | cases h
theorem sa_cons {e : Expr} {es : List Expr} {f g} (hs : isStar e = false) (ha : PE C.X e (tE C f)) (hr : PA C.X es (tA C g)) :
    PA C.X (e :: es) (tA C fun ρ h => (f ρ h).bnd fun x h => (g ρ h).bnd fun xs h => .ok (x :: xs) h) := by
  refine (pa_cons ha hr (starEach_cons hs)).imp fun σ H Q ⟨φ, ρ, h, rl, po⟩ => ?_
  refine tE.mk rl (po.bnd.imp fun x φ1 h1 H1 s1 hr1 p1 V v rl1 => ?_)
  refine tA.mk rl1 (p1.bnd.imp fun xs φ2 h2 H2 s2 hr2 p2 Vs vs rl2 => ?_)
  exact p2.ok' hr2 _ ⟨V, Vs, rfl, VR.mono s2 (Ct.wm s2) _ _ v, vs⟩
theorem se_tup {es : List Expr} {k : Nat} {pos : Pos} {f} (ha : PA C.X es (tA C f)) : PE C.X (.Tuple es k pos) (tE C fun ρ h => (f ρ h).bnd fun vs h => if vs.length ≤ sizeLine then .ok (.tup vs) h else .err) := by
  refine (pe_tup ha).imp fun σ H Q ⟨φ, ρ, h, rl, po⟩ => ?_
  refine tA.mk rl (po.bnd.imp fun xs φ1 h1 H1 s1 hr1 p1 Vs vs rl1 => ?_)
  obtain ⟨c, p1⟩ := p1.if_
  exact ⟨by rw [vs.len]; exact c, fun p n => new_tup hr1 vs n p1⟩
theorem se_lst {es : List Expr} {pos : Pos} {f} (ha : PA C.X es (tA C f)) : PE C.X (.List es pos) (tE C fun ρ h => (f ρ h).bnd fun vs h => if vs.length ≤ sizeLine then newL vs h else .err) := by
  refine (pe_lst ha).imp fun σ H Q ⟨φ, ρ, h, rl, po⟩ => ?_
  refine tA.mk rl (po.bnd.imp fun xs φ1 h1 H1 s1 hr1 p1 Vs vs rl1 => ?_)
  obtain ⟨c, p1⟩ := p1.if_
  exact ⟨by rw [vs.len]; exact c, fun p n => p1.newL hr1 vs n _ (ref_add hr1.len)⟩

/-! ### operators -/
theorem se_bin {a b : Expr} {op : Operator} {pos : Pos} {f g} (hK : C.X.K = C.Γ.K) (ha : PE C.X a (tE C f)) (hb : PE C.X b (tE C g)) :
    PE C.X (.BinOp a op b pos) (tE C fun ρ h => (f ρ h).bnd fun x h => (g ρ h).bnd fun y h => binV op x y h) := by
  refine (pe_op (op_binV hK op) ha hb).imp fun σ H Q ⟨φ, ρ, h, rl, po⟩ => ?_
  refine tE.mk rl (po.bnd.imp fun x φ1 h1 H1 s1 hr1 p1 V v rl1 => ?_)
  refine tE.mk rl1 (p1.bnd.imp fun y φ2 h2 H2 s2 hr2 p2 U u rl2 => ?_)
  exact ⟨σ, φ2, ρ, h2, x, y, rl2, VR.mono s2 (Ct.wm s2) _ _ v, u, p2⟩
theorem se_cmp {a b : Expr} {op : CmpOp} {pos : Pos} {f g} (hK : C.X.K = C.Γ.K) (hu : C.X.A.units + 65 < cLine) (hm : behindInMarks op b = false) (ha : PE C.X a (tE C f)) (hb : PE C.X b (tE C g)) :
    PE C.X (.Compare a [op] [b] pos) (tE C fun ρ h => (f ρ h).bnd fun x h => (g ρ h).bnd fun y h => cmpV op x y h) := by
  refine (pe_cmpR (op_cmpV hK hu op) ha hb hm).imp fun σ H Q ⟨φ, ρ, h, rl, po⟩ => ?_
  refine tE.mk rl (po.bnd.imp fun x φ1 h1 H1 s1 hr1 p1 V v rl1 => ?_)
  refine tE.mk rl1 (p1.bnd.imp fun y φ2 h2 H2 s2 hr2 p2 U u rl2 => ?_)
  exact ⟨σ, φ2, ρ, h2, x, y, rl2, VR.mono s2 (Ct.wm s2) _ _ v, u, p2⟩
/-- a comparison gives a truth -/
theorem cmpV_bl {op x y h} : (∃ k, cmpV op x y h = .ok (.bl k) h) ∨ cmpV op x y h = .err := by
  unfold cmpV
  split <;> first
    | exact .inl ⟨_, rfl⟩
    | exact .inr rfl
    | (split <;> first | exact .inl ⟨_, rfl⟩ | exact .inr rfl)
/-- a test by a value that is a truth -/
theorem truV_bl {k : Bool} {h : Hh} : truV (.bl k) h = .ok k h := rfl
theorem st_cmp {a b : Expr} {op : CmpOp} {pos : Pos} {f g} (hK : C.X.K = C.Γ.K) (hu : C.X.A.units + 65 < cLine) (hm : behindInMarks op b = false) (ha : PE C.X a (tE C f)) (hb : PE C.X b (tE C g)) :
    PT C.X (.Compare a [op] [b] pos) (tT C fun ρ h => ((f ρ h).bnd fun x h => (g ρ h).bnd fun y h => cmpV op x y h).bnd truV) := by
  refine (pt_cmpR (op_cmpV hK hu op) ha hb hm).imp fun σ H Q ⟨φ, ρ, h, rl, po⟩ => ?_
  have e : ((f ρ h).bnd fun x h => (g ρ h).bnd fun y h => cmpV op x y h).bnd truV = (f ρ h).bnd fun x h => (g ρ h).bnd fun y h => (cmpV op x y h).bnd truV := by
    cases f ρ h with
    | ok x h =>
      show ((g ρ h).bnd _).bnd truV = (g ρ h).bnd _
      cases g ρ h <;> rfl
    | _ => rfl
  dsimp only at po
  rw [e] at po
  refine tE.mk rl (po.bnd.imp fun x φ1 h1 H1 s1 hr1 p1 V v rl1 => ?_)
  refine tE.mk rl1 (p1.bnd.imp fun y φ2 h2 H2 s2 hr2 p2 U u rl2 => ?_)
  refine ⟨σ, φ2, ρ, h2, x, y, rl2, VR.mono s2 (Ct.wm s2) _ _ v, u, ?_⟩
  rcases cmpV_bl (op := op) (x := x) (y := y) (h := h2) with ⟨k, e⟩ | e
  · rw [e] at p2 ⊢
    exact fun φ' H' s' hr' V' v' => ⟨k, v', (show Po C φ2 σ H2 (.ok k h2) _ from p2) φ' H' s' hr'⟩
  · rw [e] at p2
    exact p2.elim
theorem se_neg {a : Expr} {pos : Pos} {f} (ha : PE C.X a (tE C f)) : PE C.X (.UnaryOp .USub a pos) (tE C fun ρ h => (f ρ h).bnd fun x h => match x with | .int i => .ok (.int (-i)) h | _ => .err) := by
  refine (pe_un un_neg ha).imp fun σ H Q ⟨φ, ρ, h, rl, po⟩ => ?_
  refine tE.mk rl (po.bnd.imp fun x φ1 h1 H1 s1 hr1 p1 V v rl1 => ?_)
  cases x with
  | int i =>
    obtain rfl := vr_int v
    exact ⟨i, rfl, p1.val (V := .int (-i)) hr1 rfl⟩
  | _ => exact p1.elim
theorem vr_bool {Γ φ H W k V} (v : VR Γ φ H W (.bl k) V) : V = .bl k := v
theorem se_not {a : Expr} {pos : Pos} {f} (ha : PE C.X a (tE C f)) : PE C.X (.UnaryOp .Not a pos) (tE C fun ρ h => (f ρ h).bnd fun x h => match x with | .bl b => .ok (.bl (!b)) h | _ => .err) := by
  refine (pe_not ha).imp fun σ H Q ⟨φ, ρ, h, rl, po⟩ => ?_
  refine tE.mk rl (po.bnd.imp fun x φ1 h1 H1 s1 hr1 p1 V v rl1 => ?_)
  cases x with
  | bl i => exact ⟨i, v, p1.val (V := .bl (!i)) hr1 rfl⟩
  | _ => exact p1.elim
theorem st_not {a : Expr} {pos : Pos} {f} (ha : PT C.X a (tT C f)) : PT C.X (.UnaryOp .Not a pos) (tT C fun ρ h => (f ρ h).bnd fun b h => .ok (!b) h) := by
  refine (pt_not ha).imp fun σ H Q ⟨φ, ρ, h, rl, po⟩ => ?_
  exact tT.mk rl (po.bnd.imp fun x φ1 h1 H1 s1 hr1 p1 rl1 => p1.ok' hr1)
theorem se_and {a b : Expr} {rest : List Expr} {pos : Pos} {f g} (ha : PE C.X a (tE C f)) (hb : PE C.X (.BoolOp .And (b :: rest) pos) (tE C g)) :
    PE C.X (.BoolOp .And (a :: b :: rest) pos) (tE C fun ρ h => (f ρ h).bnd fun x h => match x with | .bl true => g ρ h | .bl false => .ok (.bl false) h | _ => .err) := by
  refine (pe_and ha hb).imp fun σ H Q ⟨φ, ρ, h, rl, po⟩ => ?_
  refine tE.mk rl (po.bnd.imp fun x φ1 h1 H1 s1 hr1 p1 V v rl1 => ?_)
  cases x with
  | bl i =>
    refine ⟨i, v, ?_⟩
    cases i with
    | true => exact iteT ⟨φ1, ρ, h1, rl1, p1⟩
    | false => exact iteF (p1.val (V := .bl false) hr1 rfl)
  | _ => exact p1.elim
theorem se_or {a b : Expr} {rest : List Expr} {pos : Pos} {f g} (ha : PE C.X a (tE C f)) (hb : PE C.X (.BoolOp .Or (b :: rest) pos) (tE C g)) :
    PE C.X (.BoolOp .Or (a :: b :: rest) pos) (tE C fun ρ h => (f ρ h).bnd fun x h => match x with | .bl false => g ρ h | .bl true => .ok (.bl true) h | _ => .err) := by
  refine (pe_or ha hb).imp fun σ H Q ⟨φ, ρ, h, rl, po⟩ => ?_
  refine tE.mk rl (po.bnd.imp fun x φ1 h1 H1 s1 hr1 p1 V v rl1 => ?_)
  cases x with
  | bl i =>
    refine ⟨i, v, ?_⟩
    cases i with
    | false => exact iteF ⟨φ1, ρ, h1, rl1, p1⟩
    | true => exact iteT (p1.val (V := .bl true) hr1 rfl)
  | _ => exact p1.elim
theorem sw_and {a b : Expr} {rest : List Expr} {pos : Pos} {f g} (ha : PT C.X a (tT C f)) (hb : PW C.X (.BoolOp .And (b :: rest) pos) (tT C g)) :
    PW C.X (.BoolOp .And (a :: b :: rest) pos) (tT C fun ρ h => (f ρ h).bnd fun x h => if x = true then g ρ h else .ok false h) := by
  refine (pw_and ha hb).imp fun σ H Q ⟨φ, ρ, h, rl, po⟩ => ?_
  refine tT.mk rl (po.bnd.imp fun x φ1 h1 H1 s1 hr1 p1 rl1 => ?_)
  cases x with
  | true => exact iteT ⟨φ1, ρ, h1, rl1, p1⟩
  | false => exact iteF (p1.ok' hr1)
theorem sw_or {a b : Expr} {rest : List Expr} {pos : Pos} {f g} (ha : PT C.X a (tT C f)) (hb : PW C.X (.BoolOp .Or (b :: rest) pos) (tT C g)) :
    PW C.X (.BoolOp .Or (a :: b :: rest) pos) (tT C fun ρ h => (f ρ h).bnd fun x h => if x = true then .ok true h else g ρ h) := by
  refine (pw_or ha hb).imp fun σ H Q ⟨φ, ρ, h, rl, po⟩ => ?_
  refine tT.mk rl (po.bnd.imp fun x φ1 h1 H1 s1 hr1 p1 rl1 => ?_)
  cases x with
  | false => exact iteF ⟨φ1, ρ, h1, rl1, p1⟩
  | true => exact iteT (p1.ok' hr1)
/-- expressions whose test is their value's truth -/
def plainT : Expr → Bool
  | .Name .. => true
  | .Call .. => true
  | .Subscript .. => true
  | .Attribute .. => true
  | .BinOp .. => true
  | .ListComp .. => true
  | .Constant .. => true
  | _ => false
theorem st_plain {e : Expr} {f} (hK : C.X.K = C.Γ.K) (hp : plainT e = true) (ha : PE C.X e (tE C f)) : PT C.X e (tT C fun ρ h => (f ρ h).bnd truV) := by
  have he : ∀ whole, isTrue e C.X.env whole = (do let v ← whole; standAt e.pos; holding [v] (truthy v)) := by
    cases e <;> first | (intro _; rfl) | cases hp
  refine (pt_truth ha he).imp fun σ H Q ⟨φ, ρ, h, rl, po⟩ => ?_
  refine tE.mk rl (po.bnd.imp fun x φ1 h1 H1 s1 hr1 p1 V v rl1 => ?_)
  rcases truV_ok (x := x) (h := h1) with ⟨k, e⟩ | e
  · obtain ⟨t, _⟩ := tru_V hK hr1 v e
    rw [e] at p1
    exact ⟨k, t, p1.ok' hr1⟩
  · rw [e] at p1
    exact p1.elim
theorem se_ife {c a b : Expr} {pos : Pos} {t f g} (hc : PT C.X c (tT C t)) (ha : PE C.X a (tE C f)) (hb : PE C.X b (tE C g)) :
    PE C.X (.IfExp c a b pos) (tE C fun ρ h => (t ρ h).bnd fun k h => if k = true then f ρ h else g ρ h) := by
  refine (pe_ifExp hc ha hb).imp fun σ H Q ⟨φ, ρ, h, rl, po⟩ => ?_
  refine tT.mk rl (po.bnd.imp fun x φ1 h1 H1 s1 hr1 p1 rl1 => ?_)
  cases x with
  | true => exact iteT ⟨φ1, ρ, h1, rl1, p1⟩
  | false => exact iteF ⟨φ1, ρ, h1, rl1, p1⟩
theorem se_chn {a b c : Expr} {op op' : CmpOp} {pos : Pos} {f g k} (hK : C.X.K = C.Γ.K) (hu : C.X.A.units + 65 < cLine) (hm : lastMarks [op, op'] [b, c] = false) (ha : PE C.X a (tE C f)) (hb : PE C.X b (tE C g)) (hc : PE C.X c (tE C k)) :
    PE C.X (.Compare a [op, op'] [b, c] pos) (tE C fun ρ h => (f ρ h).bnd fun x h => (g ρ h).bnd fun y h => (cmpV op x y h).bnd fun b h => match b with
      | .bl true => (k ρ h).bnd fun z h => cmpV op' y z h
      | .bl false => .ok (.bl false) h
      | _ => .err) := by
  refine (pe_chain (op_cmpV hK hu op) (op_cmpV hK hu op') ha hb hc hm).imp fun σ H Q ⟨φ, ρ, h, rl, po⟩ => ?_
  refine tE.mk rl (po.bnd.imp fun x φ1 h1 H1 s1 hr1 p1 V v rl1 => ?_)
  refine tE.mk rl1 (p1.bnd.imp fun y φ2 h2 H2 s2 hr2 p2 U u rl2 => ?_)
  refine ⟨σ, φ2, ρ, h2, x, y, rl2, VR.mono s2 (Ct.wm s2) _ _ v, u, ?_⟩
  rcases cmpV_bl (op := op) (x := x) (y := y) (h := h2) with ⟨j, e⟩ | e
  · rw [e] at p2 ⊢
    intro φ3 H3 s3 hr3 V' v'
    refine ⟨j, v', ?_⟩
    have rl3 := rl2.on s3 hr3
    cases j with
    | true =>
      replace p2 : Po C φ2 σ H2 ((k ρ h2).bnd fun z h => cmpV op' y z h) (fun v φ' _ H' => ∀ V, VR C.Γ φ' H' (C.W σ H') v V → Q V H') := p2
      refine iteT (tE.mk rl3 ((Po.step p2 s3).bnd.imp fun z φ4 h4 H4 s4 hr4 p4 Z zr rl4 => ?_))
      exact ⟨σ, φ4, ρ, h4, y, z, rl4, VR.mono (s3.trans s4) (Ct.wm (s3.trans s4)) _ _ u, zr, p4⟩
    | false => exact iteF ((Po.step p2 s3).val (V := .bl false) hr3 rfl)
  · rw [e] at p2
    exact p2.elim
theorem plainIx {b : Expr} (h : (match b with | .Slice .. => false | _ => true) = true) : PlainIx b := by
  intro o i
  cases b <;> first | rfl | cases h
theorem se_idx {a b : Expr} {pos : Pos} {f g} (hK : C.X.K = C.Γ.K) (hs : (match b with | .Slice .. => false | _ => true) = true) (ha : PE C.X a (tE C f)) (hb : PE C.X b (tE C g)) :
    PE C.X (.Subscript a b pos) (tE C fun ρ h => (f ρ h).bnd fun x h => (g ρ h).bnd fun y h => idxV x y h) := by
  refine (pe_ix (ix_V hK) ha hb (plainIx hs)).imp fun σ H Q ⟨φ, ρ, h, rl, po⟩ => ?_
  refine tE.mk rl (po.bnd.imp fun x φ1 h1 H1 s1 hr1 p1 V v rl1 => ?_)
  refine tE.mk rl1 (p1.bnd.imp fun y φ2 h2 H2 s2 hr2 p2 U u rl2 => ?_)
  exact ⟨σ, φ2, ρ, h2, x, y, rl2, VR.mono s2 (Ct.wm s2) _ _ v, u, p2⟩
theorem _root_.L2.PO.imp {X : Cx} {e : Option Expr} {t t' : TO} (h : PO X e t) (i : ∀ σ H Q, t' σ H Q → t σ H Q) : PO X e t' := ⟨fun pins s σ H Q I q => h.run pins s σ H Q I (i σ H Q q)⟩
theorem so_none : PO C.X none (tO C fun _ h => .ok none h) := po_none.imp fun σ H Q ⟨φ, ρ, h, rl, po⟩ => po.ok' rl.hr
theorem so_some {e : Expr} {f} (ha : PE C.X e (tE C f)) : PO C.X (some e) (tO C fun ρ h => (f ρ h).bnd fun v h => match v with | .int i => .ok (some i) h | _ => .err) := by
  refine (po_some ha).imp fun σ H Q ⟨φ, ρ, h, rl, po⟩ => ?_
  refine tE.mk rl (po.bnd.imp fun x φ1 h1 H1 s1 hr1 p1 V v rl1 => ?_)
  cases x with
  | int i => exact ⟨i, v, p1.ok' hr1⟩
  | _ => exact p1.elim
theorem se_slc {a : Expr} {lo hi : Option Expr} {p2 pos : Pos} {f g k} (hK : C.X.K = C.Γ.K) (ha : PE C.X a (tE C f)) (hl : PO C.X lo (tO C g)) (hh : PO C.X hi (tO C k)) :
    PE C.X (.Subscript a (.Slice lo hi none p2) pos) (tE C fun ρ h => (f ρ h).bnd fun x h => (g ρ h).bnd fun l h => (k ρ h).bnd fun u h => slcV x l u h) := by
  refine (pe_slice (sl_V hK) ha hl hh).imp fun σ H Q ⟨φ, ρ, h, rl, po⟩ => ?_
  refine tE.mk rl (po.bnd.imp fun x φ1 h1 H1 s1 hr1 p1 V v rl1 => ?_)
  refine tO.mk rl1 (p1.bnd.imp fun l φ2 h2 H2 s2 hr2 p2 rl2 => ?_)
  refine tO.mk rl2 (p2.bnd.imp fun u φ3 h3 H3 s3 hr3 p3 rl3 => ?_)
  exact ⟨σ, φ3, ρ, h3, x, rl3, VR.mono (s2.trans s3) (Ct.wm (s2.trans s3)) _ _ v, p3⟩
/-- a built-in called by its name -/
theorem se_blt {b : BI} {f : Value} {es : List Expr} {e : Expr} {p pos : Pos} {g} (hK : C.X.K = C.Γ.K) (hc : C.X.calm = true) (hu : C.X.A.units + 65 < cLine) (hgd : C.X.A.guards = some []) (hb : b.val = some f)
    (hg : Gl C.X b.str) (hm : C.X.mg b.str = none) (hs : isStar e = false) (hpl : es.all (fun e => !isStar e) = true) (ha : PA C.X (e :: es) (tA C g)) :
    PE C.X (.Call (.Name b.str p) (e :: es) [] pos) (tE C fun ρ h => (g ρ h).bnd fun vs h => bltV b vs h) := by
  have key : ∀ {es : List Expr} {env : Env}, es.all (fun e => !isStar e) = true → (backTo pos (starEach es env)).any (·.1) = false := by
    intro es env
    induction es with
    | nil => intro _; rfl
    | cons e r ih =>
      intro h
      rw [List.all_cons, Bool.and_eq_true] at h
      have h1 : isStar e = false := by simpa using h.1
      rw [starEach_cons h1]
      show (false || (backTo pos (starEach r env)).any (·.1)) = false
      rw [ih h.2]
      rfl
  have main : ∀ {r : List V → Hp → VK → Prop}, CallR C.X f r → PE C.X (.Call (.Name b.str p) (e :: es) [] pos) (tCB r (tA C g)) := fun {r} hr => by
    cases b <;> cases hb
    case len => exact pe_callB hr hg hm (by decide +kernel) ha (by decide) (by decide) (starEach_cons hs) (key hpl)
    case abs => exact pe_callB hr hg hm (by decide +kernel) ha (by decide) (by decide) (starEach_cons hs) (key hpl)
    case sum => exact pe_callB hr hg hm (by decide +kernel) ha (by decide) (by decide) (starEach_cons hs) (key hpl)
    case all => exact pe_callB hr hg hm (by decide +kernel) ha (by decide) (by decide) (starEach_cons hs) (key hpl)
    case any => exact pe_callB hr hg hm (by decide +kernel) ha (by decide) (by decide) (starEach_cons hs) (key hpl)
    case max2 => exact pe_callB hr hg hm (by decide +kernel) ha (by decide) (by decide) (starEach_cons hs) (key hpl)
    case min2 => exact pe_callB hr hg hm (by decide +kernel) ha (by decide) (by decide) (starEach_cons hs) (key hpl)
    case repr => exact pe_callB hr hg hm (by decide +kernel) ha (by decide) (by decide) (starEach_cons hs) (key hpl)
    case int => exact pe_callTy hr hg hm (by decide +kernel) ha (by decide) (by decide) (starEach_cons hs) (key hpl)
    case list => exact pe_callTy hr hg hm (by decide +kernel) ha (by decide) (by decide) (starEach_cons hs) (key hpl)
    case tuple => exact pe_callTy hr hg hm (by decide +kernel) ha (by decide) (by decide) (starEach_cons hs) (key hpl)
  refine (main (call_V hK hc hu hgd b f hb)).imp fun σ H Q ⟨φ, ρ, h, rl, po⟩ => ?_
  refine tA.mk rl (po.bnd.imp fun xs φ1 h1 H1 s1 hr1 p1 Vs vs rl1 => ?_)
  exact ⟨σ, φ1, ρ, h1, xs, rl1, vs, p1⟩
theorem se_bits {o : Expr} {apos pos : Pos} {f} (ho : PE C.X o (tE C f)) (hbase : attributeBase o "bit_length" C.X.env (eval o C.X.env) = eval o C.X.env) (hline : (apos.endLine == pos.line) = true) :
    PE C.X (.Call (.Attribute o "bit_length" apos) [] [] pos) (tE C fun ρ h => (f ρ h).bnd fun x h => bitlV x h) := by
  refine (pe_bits ho hbase hline).imp fun σ H Q ⟨φ, ρ, h, rl, po⟩ => ?_
  refine tE.mk rl (po.bnd.imp fun x φ1 h1 H1 s1 hr1 p1 V v rl1 => ?_)
  cases x with
  | int i => exact ⟨i, v, p1.val (V := .int _) hr1 rfl⟩
  | _ => exact p1.elim
end
end EV
set_option linter.all false
set_option maxRecDepth 100000
set_option maxHeartbeats 1000000
/-! Ev7: a call over a heap of its own. -/
namespace EV
open PySem PySem.Spec PyProof.Rows L2

theorem posOf_ok {r : Nat} : ∀ {m : List Nat} {k i : Nat}, posOf r m k = some i → ∃ j, i = k + j ∧ m[j]? = some r
  | [], k, i, e => by cases e
  | x :: xs, k, i, e => by
    unfold posOf at e
    split at e
    · rename_i h
      cases e
      exact ⟨0, rfl, by rw [eq_of_beq h]; rfl⟩
    · obtain ⟨j, e1, e2⟩ := posOf_ok e
      exact ⟨j + 1, by omega, by simpa using e2⟩
mutual
theorem VR.ren {Γ φ φ0 H W W'} {m : List Nat} (k : ∀ (i n : Nat) a, m[i]? = some n → φ[n]? = some a → φ0[i]? = some a) : ∀ (x y : PV) (V : V), PV.ren m x = some y → VR Γ φ H W x V → VR Γ φ0 H W' y V
  | .non, y, v, e, h => by cases e; exact h
  | .bl _, y, v, e, h => by cases e; exact h
  | .int _, y, v, e, h => by cases e; exact h
  | .str _, y, v, e, h => by cases e; exact h
  | .tup xs, y, v, e, h => by
    simp only [PV.ren] at e
    split at e
    · rename_i ys e1
      cases e
      simp only [VR] at h ⊢
      obtain ⟨p, vs, e, s, r⟩ := h
      exact ⟨p, vs, e, s, VRs.ren k xs ys vs e1 r⟩
    · cases e
  | .ref n, y, v, e, h => by
    simp only [PV.ren] at e
    split at e
    · rename_i i e1
      cases e
      obtain ⟨j, e2, e3⟩ := posOf_ok e1
      have e2' : i = j := by omega
      subst e2'
      simp only [VR] at h ⊢
      obtain ⟨b, e, q⟩ := h
      exact ⟨b, k i n b e3 e, q⟩
    · cases e
  | .exc p c x, y, v, e, h => by
    simp only [PV.ren] at e
    split at e
    · rename_i w e1
      cases e
      simp only [VR] at h ⊢
      obtain ⟨b, d, z, e, h1, h2, r⟩ := h
      exact ⟨b, d, z, e, h1, h2, VR.ren k x w z e1 r⟩
    · cases e
  | .clo c xs, y, v, e, h => by cases e
theorem VRs.ren {Γ φ φ0 H W W'} {m : List Nat} (k : ∀ (i n : Nat) a, m[i]? = some n → φ[n]? = some a → φ0[i]? = some a) : ∀ (x y : List PV) (V : List V), PV.rens m x = some y → VRs Γ φ H W x V → VRs Γ φ0 H W' y V
  | [], y, v, e, h => by cases e; exact h
  | x :: xs, y, vs, e, h => by
    simp only [PV.rens] at e
    split at e
    · rename_i y1 ys e1 e2
      cases e
      obtain ⟨v, r, e, h1, h2⟩ := h
      exact ⟨v, r, e, VR.ren k x _ v e1 h1, VRs.ren k xs _ r e2 h2⟩
    · cases e
end
mutual
theorem VR.bak {Γ φ1 φ' H W1 W'} {m : List Nat} {L : Nat} (w : ∀ c v, W1 c v → W' c v) (k : ∀ (i : Nat) a, φ1[i]? = some a → φ'[bakN m L i]? = some a) : ∀ (x : PV) (V : V), VR Γ φ1 H W1 x V → VR Γ φ' H W' (PV.bak m L x) V
  | .non, v, h => h
  | .bl _, v, h => h
  | .int _, v, h => h
  | .str _, v, h => h
  | .tup xs, v, h => by
    simp only [PV.bak, VR] at h ⊢
    obtain ⟨p, vs, e, s, r⟩ := h
    exact ⟨p, vs, e, s, VRs.bak w k xs vs r⟩
  | .ref n, v, h => by
    simp only [PV.bak, VR] at h ⊢
    obtain ⟨b, e, q⟩ := h
    exact ⟨b, k n b e, q⟩
  | .exc p c x, v, h => by
    simp only [PV.bak, VR] at h ⊢
    obtain ⟨b, d, z, e, h1, h2, r⟩ := h
    exact ⟨b, d, z, e, h1, h2, VR.bak w k x z r⟩
  | .clo c xs, v, h => by
    simp only [PV.bak, VR] at h ⊢
    obtain ⟨f, c', cl, vs, e, h1, h2, h3, r, l, q⟩ := h
    refine ⟨f, c', cl, vs, e, h1, h2, h3, VRs.bak w k xs vs r, l, fun i x u e1 e2 => ?_⟩
    obtain ⟨c, e3, e4⟩ := q i x u e1 e2
    exact ⟨c, e3, w c u e4⟩
theorem VRs.bak {Γ φ1 φ' H W1 W'} {m : List Nat} {L : Nat} (w : ∀ c v, W1 c v → W' c v) (k : ∀ (i : Nat) a, φ1[i]? = some a → φ'[bakN m L i]? = some a) : ∀ (x : List PV) (V : List V), VRs Γ φ1 H W1 x V → VRs Γ φ' H W' (PV.baks m L x) V
  | [], v, h => h
  | x :: xs, vs, h => by
    obtain ⟨v, r, e, h1, h2⟩ := h
    exact ⟨v, r, e, VR.bak w k x v h1, VRs.bak w k xs r h2⟩
end
theorem nodup_of {m : List Nat} : nodupB m = true → m.Nodup := by
  induction m with
  | nil => intro _; exact List.nodup_nil
  | cons x xs ih =>
    intro h
    simp only [nodupB, Bool.and_eq_true, Bool.not_eq_true'] at h
    refine List.nodup_cons.mpr ⟨fun z => ?_, ih h.2⟩
    have := List.contains_iff_mem.mpr z
    rw [h.1] at this
    cases this
theorem renH_ok {m : List Nat} {h : Hh} : ∀ {rs : List Nat} {h0 : Hh}, renH m h rs = some h0 → h0.length = rs.length ∧ ∀ (i n : Nat), rs[i]? = some n → ∃ o u, h[n]? = some o ∧ h0[i]? = some u ∧ HV.ren m o = some u
  | [], h0, e => by
    cases e
    exact ⟨rfl, fun i n z => by simp at z⟩
  | r :: rs, h0, e => by
    unfold renH at e
    split at e
    · rename_i o eo
      split at e
      · rename_i u us e1 e2
        cases e
        obtain ⟨l, k⟩ := renH_ok e2
        refine ⟨by simp [l], fun i n z => ?_⟩
        cases i with
        | zero =>
          simp at z
          subst z
          exact ⟨o, u, eo, rfl, e1⟩
        | succ i => exact k i n (by simpa using z)
      · cases e
    · cases e
theorem wrt_ok {m : List Nat} {L : Nat} : ∀ (rs : List Nat) (os : Hh) (h : Hh), rs.Nodup → rs.length ≤ os.length → (∀ n, n ∈ rs → n < h.length) →
    (wrt m L rs os h).length = h.length + (os.length - rs.length) ∧
    (∀ (i n : Nat), rs[i]? = some n → (wrt m L rs os h)[n]? = os[i]?.map (HV.bak m L)) ∧
    (∀ n, n < h.length → n ∉ rs → (wrt m L rs os h)[n]? = h[n]?) ∧
    ∀ k, (wrt m L rs os h)[h.length + k]? = os[rs.length + k]?.map (HV.bak m L)
  | [], os, h, _, _, _ => by
    refine ⟨by simp [wrt], fun i n z => by simp at z, fun n hn _ => by simp [wrt, List.getElem?_append_left hn], fun k => ?_⟩
    simp only [wrt]
    rw [List.getElem?_append_right (by omega), List.getElem?_map]
    simp
  | r :: rs, [], h, _, l, _ => by simp at l
  | r :: rs, o :: os, h, nd, l, lt => by
    have nd' := List.nodup_cons.mp nd
    obtain ⟨i1, i2, i3, i4⟩ := wrt_ok (m := m) (L := L) rs os (h.set r (o.bak m L)) nd'.2 (by simpa using l) (fun n hn => by rw [List.length_set]; exact lt n (List.mem_cons_of_mem _ hn))
    simp only [List.length_set] at i1 i3 i4
    refine ⟨by simp only [wrt, i1, List.length_cons]; omega, fun i n z => ?_, fun n hn hm => ?_, fun k => ?_⟩
    · cases i with
      | zero =>
        simp at z
        subst z
        have := i3 r (lt r List.mem_cons_self) nd'.1
        simp only [wrt, this]
        rw [List.getElem?_set_self (lt r List.mem_cons_self)]
        rfl
      | succ i => exact i2 i n (by simpa using z)
    · have h1 : n ≠ r := fun z => hm (z ▸ List.mem_cons_self)
      have h2 : n ∉ rs := fun z => hm (List.mem_cons_of_mem _ z)
      simp only [wrt, i3 n hn h2]
      rw [List.getElem?_set_ne (Ne.symm h1)]
    · simp only [wrt, i4 k, List.length_cons]
      rw [show rs.length + 1 + k = (rs.length + k) + 1 by omega, List.getElem?_cons_succ]

theorem OR.ren {Γ φ φ0 H W W'} {m : List Nat} (k : ∀ (i n : Nat) a, m[i]? = some n → φ[n]? = some a → φ0[i]? = some a) {o u : HV} {a : Addr} (e : HV.ren m o = some u) (h : OR Γ φ H W o a) : OR Γ φ0 H W' u a := by
  cases o with
  | lst f xs =>
    simp only [HV.ren] at e
    split at e
    · rename_i ys e1
      cases e
      cases f with
      | false =>
        obtain ⟨vs, e, r⟩ := h
        exact ⟨vs, e, VRs.ren k xs ys vs e1 r⟩
      | true =>
        obtain ⟨vs, e, r⟩ := h
        exact ⟨vs, e, VRs.ren k xs ys vs e1 r⟩
    · cases e
  | dct0 => cases e; exact h
  | dead => cases e
theorem OR.bak {Γ φ1 φ' H W1 W'} {m : List Nat} {L : Nat} (w : ∀ c v, W1 c v → W' c v) (k : ∀ (i : Nat) a, φ1[i]? = some a → φ'[bakN m L i]? = some a) {o : HV} {a : Addr} (h : OR Γ φ1 H W1 o a) : OR Γ φ' H W' (o.bak m L) a := by
  cases o with
  | lst f xs =>
    cases f with
    | false =>
      obtain ⟨vs, e, r⟩ := h
      exact ⟨vs, e, VRs.bak w k xs vs r⟩
    | true =>
      obtain ⟨vs, e, r⟩ := h
      exact ⟨vs, e, VRs.bak w k xs vs r⟩
  | dct0 => exact h
  | dead => trivial
theorem lst_ren {m : List Nat} {o : HV} {xs : List PV} (e : HV.ren m o = some (.lst false xs)) : ∃ ys, o = .lst false ys := by
  cases o with
  | lst f ys =>
    simp only [HV.ren] at e
    split at e
    · cases e; exact ⟨_, rfl⟩
    · cases e
  | dct0 => cases e
  | dead => cases e
theorem lst_bak {m : List Nat} {L : Nat} {o : HV} {xs : List PV} (e : HV.bak m L o = .lst false xs) : ∃ ys, o = .lst false ys := by
  cases o with
  | lst f ys => cases e; exact ⟨_, rfl⟩
  | dct0 => cases e
  | dead => cases e

theorem bakN_lt {m : List Nat} {L i n : Nat} (h : m[i]? = some n) : bakN m L i = n := by unfold bakN; rw [h]
theorem bakN_ge {m : List Nat} {L i : Nat} (h : m.length ≤ i) : bakN m L i = L + (i - m.length) := by unfold bakN; rw [List.getElem?_eq_none h]
structure Grb (Γ : Gm) (φ φ0 : List Addr) (H : Hp) (m : List Nat) (h h0 : Hh) : Prop where
  len : φ0.length = m.length
  at_ : ∀ (i n : Nat), m[i]? = some n → ∃ a o u, φ[n]? = some a ∧ φ0[i]? = some a ∧ h[n]? = some o ∧ h0[i]? = some u ∧ HV.ren m o = some u
  nd : m.Nodup
theorem grab_ok {Γ φ H W W' h args Vs m as h0} (r : HR Γ φ H W h) (v : VRs Γ φ H W args Vs) (g : grab h args = some (m, as, h0)) :
    ∃ φ0, Grb Γ φ φ0 H m h h0 ∧ HR Γ φ0 H W' h0 ∧ VRs Γ φ0 H W' as Vs := by
  unfold grab at g
  split at g
  · rename_i m' em
    split at g
    · rename_i nb
      split at g
      · rename_i as' h0' e1 e2
        cases g
        obtain ⟨l0, k0⟩ := renH_ok e2
        have nd := nodup_of nb
        have key : ∀ (i n : Nat), m[i]? = some n → ∃ a o u, φ[n]? = some a ∧ (m.map fun n => φ[n]?.getD 0)[i]? = some a ∧ h[n]? = some o ∧ h0[i]? = some u ∧ HV.ren m o = some u := fun i n e => by
          obtain ⟨o, u, q1, q2, q3⟩ := k0 i n e
          have hn : n < φ.length := by rw [r.len]; exact (List.getElem?_eq_some_iff.mp q1).1
          refine ⟨φ[n], o, u, List.getElem?_eq_getElem hn, ?_, q1, q2, q3⟩
          rw [List.getElem?_map, e]
          simp [List.getElem?_eq_getElem hn]
        have kk : ∀ (i n : Nat) a, m[i]? = some n → φ[n]? = some a → (m.map fun n => φ[n]?.getD 0)[i]? = some a := fun i n a e f => by
          rw [List.getElem?_map, e]
          simp [f]
        have lift : ∀ {i : Nat} {u : HV}, h0[i]? = some u → ∃ n, m[i]? = some n := fun {i u} e => by
          have hi : i < m.length := by rw [← l0]; exact (List.getElem?_eq_some_iff.mp e).1
          exact ⟨m[i], List.getElem?_eq_getElem hi⟩
        refine ⟨m.map fun n => φ[n]?.getD 0, ⟨by simp, key, nd⟩, ⟨by simp [l0], fun i u a q1 q2 => ?_, fun i j a xs ys q1 q2 q3 q4 => ?_, r.tabs⟩, VRs.ren kk args as Vs e1 v⟩
        · obtain ⟨n, en⟩ := lift q1
          obtain ⟨b, o, u', p1, p2, p3, p4, p5⟩ := key i n en
          rw [q1] at p4; cases p4
          rw [q2] at p2; cases p2
          exact (r.at_ n o a p3 p1).ren kk p5
        · obtain ⟨n, en⟩ := lift q3
          obtain ⟨n', en'⟩ := lift q4
          obtain ⟨b, o, u, p1, p2, p3, p4, p5⟩ := key i n en
          obtain ⟨b', o', u', p1', p2', p3', p4', p5'⟩ := key j n' en'
          rw [q1] at p2; cases p2
          rw [q2] at p2'; cases p2'
          rw [q3] at p4; cases p4
          rw [q4] at p4'; cases p4'
          obtain ⟨z, rfl⟩ := lst_ren p5
          obtain ⟨z', rfl⟩ := lst_ren p5'
          have := r.inj n n' a _ _ p1 p1' p3 p3'
          subst this
          have hi := (List.getElem?_eq_some_iff.mp en).1
          exact (List.getElem?_inj hi nd).mp (en.trans en'.symm)
      · cases g
    · cases g
  · cases g
theorem back_ok {Γ φ φ0 φ1 H H' W W1 W' h h0 h1 m} (r : HR Γ φ H W h) (G : Grb Γ φ φ0 H m h h0) (r0 : HR Γ φ0 H W1 h0) (s : Stp φ0 φ1 H H') (r1 : HR Γ φ1 H' W1 h1) (w1 : ∀ c v, W1 c v → W' c v) (w : ∀ c v, W c v → W' c v) :
    ∃ φ', Stp φ φ' H H' ∧ HR Γ φ' H' W' (wrt m h.length m h1 h) ∧ ∀ x V, VR Γ φ1 H' W1 x V → VR Γ φ' H' W' (PV.bak m h.length x) V := by
  have le1 : m.length ≤ φ1.length := by
    by_cases hz : m.length = 0
    · omega
    · have hlt : m.length - 1 < φ0.length := by rw [G.len]; omega
      have := s.pre (m.length - 1) _ (List.getElem?_eq_getElem hlt)
      have := (List.getElem?_eq_some_iff.mp this).1
      omega
  have mlt : ∀ n, n ∈ m → n < h.length := fun n hn => by
    obtain ⟨i, hi⟩ := List.mem_iff_getElem?.mp hn
    obtain ⟨a, o, u, p1, p2, p3, p4, p5⟩ := G.at_ i n hi
    exact (List.getElem?_eq_some_iff.mp p3).1
  obtain ⟨k1, k2, k3, k4⟩ := wrt_ok (m := m) (L := h.length) m h1 h G.nd (by rw [← r1.len]; exact le1) mlt
  -- every address of φ0 is one of φ, and stands at a place of m
  have in0 : ∀ a, a ∈ φ0 → ∃ i n, m[i]? = some n ∧ φ[n]? = some a ∧ φ0[i]? = some a := fun a ha => by
    obtain ⟨i, hi⟩ := List.mem_iff_getElem?.mp ha
    have hlt : i < m.length := by rw [← G.len]; exact (List.getElem?_eq_some_iff.mp hi).1
    obtain ⟨b, o, u, p1, p2, p3, p4, p5⟩ := G.at_ i m[i] (List.getElem?_eq_getElem hlt)
    rw [hi] at p2; cases p2
    exact ⟨i, _, List.getElem?_eq_getElem hlt, p1, hi⟩
  have nb : ∀ (i : Nat) a, φ1[i]? = some a → (φ ++ φ1.drop m.length)[bakN m h.length i]? = some a := fun i a e => by
    by_cases hi : i < m.length
    · obtain ⟨b, o, u, p1, p2, p3, p4, p5⟩ := G.at_ i m[i] (List.getElem?_eq_getElem hi)
      have q := s.pre i b p2
      rw [e] at q; cases q
      rw [bakN_lt (List.getElem?_eq_getElem hi), List.getElem?_append_left (List.getElem?_eq_some_iff.mp p1).1, p1]
    · rw [bakN_ge (by omega), ← r.len, List.getElem?_append_right (by omega), List.getElem?_drop]
      rw [show m.length + (φ.length + (i - m.length) - φ.length) = i by omega]
      exact e
  have stp : Stp φ (φ ++ φ1.drop m.length) H H' := by
    refine ⟨fun n a e => by rw [List.getElem?_append_left (List.getElem?_eq_some_iff.mp e).1]; exact e, fun a ha => ?_, fun b o e nt l => ?_, s.tbl⟩
    · rcases List.mem_append.mp ha with z | z
      · exact .inl z
      · rcases s.new a (List.mem_of_mem_drop z) with q | q
        · obtain ⟨i, n, _, q2, _⟩ := in0 a q
          exact .inl (List.mem_of_getElem? q2)
        · exact .inr q
    · refine s.keep b o e nt fun z hm => ?_
      obtain ⟨i, n, _, q2, _⟩ := in0 b hm
      exact l z (List.mem_of_getElem? q2)
  -- our own list at a place that is not the call's is none of the call's
  have sep : ∀ (n : Nat) a xs, h[n]? = some (.lst false xs) → φ[n]? = some a → n ∉ m → a ∉ φ0 := fun n a xs q1 q2 hm ha => by
    obtain ⟨vs, e, _⟩ := r.at_ n _ a q1 q2
    obtain ⟨i, n', p1, p2, p3⟩ := in0 a ha
    obtain ⟨b, o', u', t1, t2, t3, t4, t5⟩ := G.at_ i n' p1
    rw [p2] at t1; cases t1
    have old := r.at_ n' o' a t3 p2
    cases o' with
    | lst f' zs =>
      cases f' with
      | false =>
        have := r.inj n n' a _ _ q2 p2 q1 t3
        subst this
        exact hm (List.mem_of_getElem? p1)
      | true =>
        obtain ⟨vs', ⟨ob, ev⟩, _⟩ := old
        rw [e] at ev; cases ev
    | dct0 =>
      have old' : H a = some (.dK []) := old
      rw [e] at old'; cases old'
    | dead => cases t5
  -- where a place of the result stands
  have plc : ∀ (n : Nat) o, (wrt m h.length m h1 h)[n]? = some o → (∃ i o1, m[i]? = some n ∧ h1[i]? = some o1 ∧ o = HV.bak m h.length o1 ∧ ∀ a, (φ ++ φ1.drop m.length)[n]? = some a → φ1[i]? = some a) ∨
      (n ∉ m ∧ h[n]? = some o ∧ ∀ a, (φ ++ φ1.drop m.length)[n]? = some a → φ[n]? = some a) ∨
      ∃ i o1, m.length ≤ i ∧ n = h.length + (i - m.length) ∧ h1[i]? = some o1 ∧ o = HV.bak m h.length o1 ∧ ∀ a, (φ ++ φ1.drop m.length)[n]? = some a → φ1[i]? = some a := fun n o q1 => by
    by_cases hm : n ∈ m
    · obtain ⟨i, hi⟩ := List.mem_iff_getElem?.mp hm
      rw [k2 i n hi] at q1
      cases e : h1[i]? with
      | none => rw [e] at q1; cases q1
      | some o1 =>
        rw [e] at q1
        cases q1
        refine .inl ⟨i, o1, hi, e, rfl, fun a q2 => ?_⟩
        obtain ⟨b, o', u', p1, p2, p3, p4, p5⟩ := G.at_ i n hi
        rw [List.getElem?_append_left (List.getElem?_eq_some_iff.mp p1).1, p1] at q2
        cases q2
        exact s.pre i _ p2
    · by_cases hn : n < h.length
      · rw [k3 n hn hm] at q1
        refine .inr (.inl ⟨hm, q1, fun a q2 => ?_⟩)
        rw [List.getElem?_append_left (by rw [r.len]; exact hn)] at q2
        exact q2
      · have en : n = h.length + (n - h.length) := by omega
        have q1' := q1
        rw [en, k4 (n - h.length)] at q1
        cases e : h1[m.length + (n - h.length)]? with
        | none => rw [e] at q1; cases q1
        | some o1 =>
          rw [e] at q1
          cases q1
          refine .inr (.inr ⟨m.length + (n - h.length), o1, by omega, by omega, e, rfl, fun a q2 => ?_⟩)
          rw [List.getElem?_append_right (by rw [r.len]; omega), List.getElem?_drop, r.len] at q2
          exact q2
  refine ⟨φ ++ φ1.drop m.length, stp, ⟨?_, fun n o a q1 q2 => ?_, fun n n' a xs ys q1 q2 q3 q4 => ?_, r1.tabs⟩, fun x V v => VR.bak w1 nb x V v⟩
  · rw [k1, List.length_append, List.length_drop, r.len, r1.len]
  · rcases plc n o q1 with ⟨i, o1, e1, e2, rfl, e3⟩ | ⟨hm, e1, e2⟩ | ⟨i, o1, _, _, e2, rfl, e3⟩
    · exact (r1.at_ i o1 a e2 (e3 a q2)).bak w1 nb
    · have old := r.at_ n o a e1 (e2 a q2)
      cases o with
      | lst f xs =>
        cases f with
        | false =>
          obtain ⟨vs, ev, rv⟩ := old
          exact ⟨vs, s.keep a _ ev (fun _ z => nomatch z) fun _ => sep n a xs e1 (e2 a q2) hm, VRs.mono stp w xs vs rv⟩
        | true =>
          obtain ⟨vs, ev, rv⟩ := old
          exact ⟨vs, stp.sqF ev, VRs.mono stp w xs vs rv⟩
      | dct0 => exact stp.fix (show H a = some (.dK []) from old) (fun _ z => nomatch z) fun _ z => nomatch z
      | dead => trivial
    · exact (r1.at_ i o1 a e2 (e3 a q2)).bak w1 nb
  · -- a list of ours stands at one place
    have mix : ∀ {n n' : Nat} {xs ys : List PV} {i : Nat} {o1 : HV}, n' ∉ m → h[n']? = some (.lst false ys) → φ[n']? = some a → h1[i]? = some o1 → φ1[i]? = some a → False := fun {n n' xs ys i o1} hm t1 t2 t3 t4 => by
      rcases s.new a (List.mem_of_getElem? t4) with z | z
      · exact sep n' a ys t1 t2 hm z
      · obtain ⟨vs, e, _⟩ := r.at_ n' _ a t1 t2
        rw [z] at e; cases e
    have one : ∀ {i i' : Nat} {o1 o1' : HV}, h1[i]? = some o1 → h1[i']? = some o1' → .lst false xs = HV.bak m h.length o1 → .lst false ys = HV.bak m h.length o1' → φ1[i]? = some a → φ1[i']? = some a → i = i' := fun {i i' o1 o1'} t1 t2 t3 t4 t5 t6 => by
      obtain ⟨z, rfl⟩ := lst_bak t3.symm
      obtain ⟨z', rfl⟩ := lst_bak t4.symm
      exact r1.inj i i' a _ _ t5 t6 t1 t2
    rcases plc n _ q3 with ⟨i, o1, e1, e2, e, e3⟩ | ⟨hm, e1, e2⟩ | ⟨i, o1, l1, l2, e2, e, e3⟩ <;> rcases plc n' _ q4 with ⟨i', o1', e1', e2', e', e3'⟩ | ⟨hm', e1', e2'⟩ | ⟨i', o1', l1', l2', e2', e', e3'⟩
    · have := one e2 e2' e e' (e3 a q1) (e3' a q2)
      subst this
      rw [e1] at e1'
      exact Option.some.inj e1'
    · exact (mix (n := n) (xs := xs) hm' e1' (e2' a q2) e2 (e3 a q1)).elim
    · have := one e2 e2' e e' (e3 a q1) (e3' a q2)
      subst this
      have := (List.getElem?_eq_some_iff.mp e1).1
      omega
    · exact (mix (n := n) (xs := xs) hm e1 (e2 a q1) e2' (e3' a q2)).elim
    · exact r.inj n n' a _ _ (e2 a q1) (e2' a q2) e1 e1'
    · exact (mix (n := n) (xs := xs) hm e1 (e2 a q1) e2' (e3' a q2)).elim
    · have := one e2 e2' e e' (e3 a q1) (e3' a q2)
      subst this
      have := (List.getElem?_eq_some_iff.mp e1').1
      omega
    · exact (mix (n := n) (xs := xs) hm' e1' (e2' a q2) e2 (e3 a q1)).elim
    · have := one e2 e2' e e' (e3 a q1) (e3' a q2)
      subst this
      omega
end EV
set_option linter.all false
set_option maxRecDepth 100000
set_option maxHeartbeats 1000000
/-! Ev8: targets, statements, loops, comprehensions. -/
namespace EV
open PySem PySem.Spec PyProof.Rows L2

theorem HR.w {Γ φ H W W' h} (r : HR Γ φ H W h) (w : ∀ c v, W c v → W' c v) : HR Γ φ H W' h :=
  ⟨r.len, fun n o a e1 e2 => (r.at_ n o a e1 e2).mono Stp.refl w fun vs e => e, r.inj, r.tabs⟩
theorem VR.w {Γ φ H W W' x V} (r : VR Γ φ H W x V) (w : ∀ c v, W c v → W' c v) : VR Γ φ H W' x V := VR.mono Stp.refl w _ _ r
theorem VRs.w {Γ φ H W W' x V} (r : VRs Γ φ H W x V) (w : ∀ c v, W c v → W' c v) : VRs Γ φ H W' x V := VRs.mono Stp.refl w _ _ r
theorem Ct.w_off {C : Ct} (hf : C.flag = false) {σ H} : ∀ c v, C.W σ H c v → Trk H c v := fun c v z => z.elim id fun y => by rw [hf] at y; cases y.1
theorem Ct.w_on {C : Ct} {σ H} : ∀ c v, Trk H c v → C.W σ H c v := fun c v z => .inl z
/-- closures forgotten: cells do not matter -/
theorem HR.kill {Γ φ H W W' h} (r : HR Γ φ H W h) : HR Γ φ H W' (killH h) := by
  have g : ∀ {n : Nat} {o : HV}, (killH h)[n]? = some o → (h[n]? = some o ∧ o.noClo = true) ∨ o = .dead := fun {n o} e => by
    unfold killH at e
    rw [List.getElem?_map] at e
    cases q : h[n]? with
    | none => rw [q] at e; cases e
    | some u =>
      rw [q] at e
      simp only [Option.map_some, Option.some.injEq] at e
      split at e
      · rename_i k
        subst e
        exact .inl ⟨rfl, k⟩
      · exact .inr e.symm
  refine ⟨by unfold killH; rw [List.length_map]; exact r.len, fun n o a e1 e2 => ?_, fun n m a xs ys e1 e2 e3 e4 => ?_, r.tabs⟩
  · rcases g e1 with ⟨q, k⟩ | rfl
    · have old := r.at_ n o a q e2
      cases o with
      | lst f xs =>
        cases f with
        | false =>
          obtain ⟨vs, e, z⟩ := old
          exact ⟨vs, e, VRs.noClo xs vs k z⟩
        | true =>
          obtain ⟨vs, e, z⟩ := old
          exact ⟨vs, e, VRs.noClo xs vs k z⟩
      | dct0 => exact old
      | dead => trivial
    · trivial
  · rcases g e3 with ⟨q, _⟩ | q
    · rcases g e4 with ⟨q', _⟩ | q'
      · exact r.inj n m a xs ys e1 e2 q q'
      · cases q'
    · cases q
theorem killE_get {ρ : En} {i : Nat} {x : PV} (e : (killE ρ)[i]? = some (some x)) : ρ[i]? = some (some x) ∧ x.noClo = true := by
  unfold killE at e
  rw [List.getElem?_map] at e
  cases q : ρ[i]? with
  | none => rw [q] at e; cases e
  | some o =>
    rw [q] at e
    cases o with
    | none => cases e
    | some v =>
      simp only [Option.map_some, Option.some.injEq] at e
      split at e
      · rename_i k
        cases e
        exact ⟨rfl, k⟩
      · cases e
theorem RE.kill {Γ φ H W W' ρ σ} (r : RE Γ φ H W ρ σ) : RE Γ φ H W' (killE ρ) σ := ⟨fun i x e => by
  obtain ⟨q, k⟩ := killE_get e
  obtain ⟨v, e1, z⟩ := r.get i x q
  exact ⟨v, e1, VR.noClo x v k z⟩⟩
/-- a slot is written -/
theorem RE.put {Γ φ H W ρ σ} {i : Nat} {x V} (r : RE Γ φ H W ρ σ) (v : VR Γ φ H W x V) (hi : i < σ.length) : RE Γ φ H W (ρ.set i (some x)) (σ.set i (some V)) := ⟨fun j y e => by
  by_cases hj : j = i
  · subst hj
    by_cases hl : j < ρ.length
    · rw [List.getElem?_set_self hl] at e
      cases e
      exact ⟨V, List.getElem?_set_self hi, v⟩
    · rw [List.getElem?_eq_none (by rw [List.length_set]; omega)] at e
      cases e
  · rw [List.getElem?_set_ne (Ne.symm hj)] at e
    obtain ⟨u, e1, z⟩ := r.get j y e
    exact ⟨u, by rw [List.getElem?_set_ne (Ne.symm hj)]; exact e1, z⟩⟩
theorem Agr.set {σ : L2.St} {i : Nat} {v} : Agr [i] σ (σ.set i v) := ⟨List.length_set, fun j hj => List.getElem?_set_ne fun e => hj (by rw [e]; exact List.mem_singleton.mpr rfl)⟩
theorem Agr.refl {ws} {σ : L2.St} : Agr ws σ σ := ⟨rfl, fun _ _ => rfl⟩
theorem Agr.trans {ws vs} {σ σ1 σ2 : L2.St} (a : Agr ws σ σ1) (b : Agr vs σ1 σ2) : Agr (ws ++ vs) σ σ2 :=
  ⟨b.1.trans a.1, fun i hi => (b.2 i fun h => hi (List.mem_append_right _ h)).trans (a.2 i fun h => hi (List.mem_append_left _ h))⟩

section
variable {C : Ct}
/-- a slot is written by the evaluator -/
theorem put_ok {F : Cfg} {i : Nat} {x : PV} {V} {φ σ H} {ρ : En} {h : Hh} {k} (fl : C.flag = true → F.flag = true ∧ F.capd = C.capd) (rl : Rl C φ h ρ σ H) (v : VR C.Γ φ H (C.W σ H) x V) (hi : i < σ.length)
    (p : PoG C φ H (putS F i x ρ h) k) : ∃ ρ' h', Rl C φ h' ρ' (σ.set i (some V)) H ∧ k ρ' φ h' H := by
  unfold putS at p
  split at p
  · rename_i c
    split at p
    · rename_i n
      exact ⟨_, _, ⟨rl.hr.kill, RE.put rl.re.kill (VR.noClo x V n v) hi⟩, p φ H Stp.refl⟩
    · exact p.elim
  · rename_i c
    have w : ∀ c v, C.W σ H c v → C.W (σ.set i (some V)) H c v := fun a u z => by
      rcases z with z | ⟨hf, j, y, h1, h2, h3, h4⟩
      · exact .inl z
      · refine .inr ⟨hf, j, y, h1, h2, ?_, h4⟩
        obtain ⟨f1, f2⟩ := fl hf
        have ne : i ≠ j := fun e => by
          apply c
          rw [f1, f2, Bool.true_and]
          exact List.contains_iff_mem.mpr (e ▸ h1)
        rw [List.getElem?_set_ne ne]
        exact h3
    exact ⟨_, _, ⟨rl.hr.w w, RE.put (rl.re.mono Stp.refl w) (v.w w) hi⟩, p φ H Stp.refl⟩
theorem sg_tn {F : Cfg} {i : Nat} {x : Str} {pos : Pos} (nd : C.X.N.Nodup) (fl : C.flag = true → F.flag = true ∧ F.capd = C.capd) (hi : C.X.N[i]? = some x) (hx : Loc C.X.env.scope x) (hf : C.X.fn x = true ∨ C.X.env.scope.names.lookup x = some .local) :
    PG C.X (.Name x pos) (tG C [i] fun v ρ h => putS F i v ρ h) := by
  refine ⟨fun pins s σ H V u Q I r ⟨φ, ρ, h, x', rl, v, p⟩ => ?_⟩
  have hl : i < σ.length := by rw [I.len]; exact (List.getElem?_eq_some_iff.mp hi).1
  obtain ⟨ρ', h', rl', q⟩ := put_ok fl rl v hl p
  exact (pg_name nd hi hx hf).run pins s σ H V u Q I r (q _ rl' Agr.set)
theorem sgs_nil : PGs C.X [] (tGs C [] fun vs ρ h => match vs with
    | [] => .ok ρ h
    | _ => .err) := by
  refine ⟨fun pins s σ H V u Q I r ⟨φ, ρ, h, xs, rl, v, p⟩ => ?_⟩
  cases xs with
  | nil =>
    have e : V = [] := v
    exact pgs_nil.run pins s σ H V u Q I r ⟨e, p φ H Stp.refl σ rl Agr.refl⟩
  | cons x xs => exact p.elim
theorem assignEach_cons {e : Expr} {es : List Expr} {env : Env} (h : isStar e = false) : assignEach (e :: es) env = (false, assign e env) :: assignEach es env := by
  cases e <;> first | rfl | cases h
theorem PoG.if_ {α : Type} {C : Ct} {φ H} {c : Prop} [Decidable c] {r : Rz α} {k} (p : PoG C φ H (if c then r else .err) k) : c ∧ PoG C φ H r k := by
  by_cases h : c
  · rw [if_pos h] at p
    exact ⟨h, p⟩
  · rw [if_neg h] at p
    exact p.elim
theorem sgs_cons {F : Cfg} {e : Expr} {es : List Expr} {wa wb f g} (fl : C.flag = true → F.flag = true ∧ F.capd = C.capd) (hs : isStar e = false) (h1 : PG C.X e (tG C wa f)) (h2 : PGs C.X es (tGs C wb g)) :
    PGs C.X (e :: es) (tGs C (wa ++ wb) fun vs ρ h => match vs with
      | v :: vs => if (!F.flag || PV.noClos vs) = true then (f v ρ h).bnd fun ρ h => g vs ρ h else .err
      | [] => .err) := by
  refine ⟨fun pins s σ H V u Q I r ⟨φ, ρ, h, xs, rl, v, p⟩ => ?_⟩
  cases xs with
  | nil => exact p.elim
  | cons x xs =>
    obtain ⟨v1, vr, e, k1, k2⟩ := v
    subst e
    obtain ⟨c, p⟩ := p.if_
    refine (pgs_cons h1 h2 (by rw [assignEach_cons hs]; rfl)).run pins s σ H _ u Q I r ⟨v1, vr, rfl, φ, ρ, h, x, rl, k1, p.bnd.imp fun ρ1 φ1 h1 H1 s1 p1 σ1 rl1 ag => ?_⟩
    refine ⟨φ1, ρ1, h1, xs, rl1, ?_, p1.imp fun ρ2 φ2 h2 H2 s2 q σ2 rl2 ag2 => q σ2 rl2 (ag.trans ag2)⟩
    have k3 := VRs.mono s1 (Ct.wm s1) _ _ k2
    cases hf : C.flag with
    | false => exact k3.w fun c v z => Ct.w_on c v (Ct.w_off hf c v z)
    | true =>
      obtain ⟨f1, _⟩ := fl hf
      rw [f1] at c
      exact VRs.noClo _ _ (by simpa using c) k3
theorem findIdx_none {es : List Expr} {env : Env} (h : es.all (fun e => !isStar e) = true) : (assignEach es env).findIdx? (·.1) = none ∧ (assignEach es env).length = es.length := by
  induction es with
  | nil => exact ⟨rfl, rfl⟩
  | cons e r ih =>
    rw [List.all_cons, Bool.and_eq_true] at h
    have h1 : isStar e = false := by simpa using h.1
    obtain ⟨i1, i2⟩ := ih h.2
    rw [assignEach_cons h1]
    refine ⟨?_, by rw [List.length_cons, List.length_cons, i2]⟩
    rw [List.findIdx?_cons]
    simp [i1]
theorem sg_tt {es : List Expr} {k : Nat} {pos : Pos} {n : Nat} {ws g} (hK : C.X.K = C.Γ.K) (hc : C.X.calm = true) (hn : es.length = n) (hs : es.all (fun e => !isStar e) = true) (hg : PGs C.X es (tGs C ws g)) :
    PG C.X (.Tuple es k pos) (tG C ws fun v ρ h => match v with
      | .tup xs => if xs.length = n then g xs ρ h else .err
      | _ => .err) := by
  obtain ⟨f1, f2⟩ := findIdx_none (env := C.X.env) hs
  refine ⟨fun pins s σ H V u Q I r ⟨φ, ρ, h, x, rl, v, p⟩ => ?_⟩
  cases x with
  | tup xs =>
    obtain ⟨a, vs, rfl, st, vr⟩ := vr_tup v
    obtain ⟨c, p⟩ := PoG.if_ (show PoG C φ H (if xs.length = n then g xs ρ h else .err) _ from p)
    refine (pg_tup hc hg (by rw [f2, hn]) f1).run pins s σ H _ u Q I r ⟨a, vs, rfl, by rw [hK]; exact st, by rw [vr.len, c], φ, ρ, h, xs, rl, vr, p⟩
  | _ => exact p.elim
theorem sg_tsub {o i : Expr} {pos : Pos} {f g} (hi : (match i with | .Slice .. => false | _ => true) = true) (ho : PE C.X o (tE C f)) (hb : PE C.X i (tE C g)) :
    PG C.X (.Subscript o i pos) (tG C [] fun v ρ h => (f ρ h).bnd fun x h => (g ρ h).bnd fun y h => match x, y with
      | .ref n, .int k => match isFl h n with
        | some xs => match ixN xs.length k with
          | some j => .ok ρ (h.set n (.lst false (xs.set j v)))
          | none => .err
        | none => .err
      | _, _ => .err) := by
  refine ⟨fun pins s σ H V u Q I r ⟨φ, ρ, h, x, rl, v, p⟩ => ?_⟩
  refine (pg_sub ho hb set_list (by cases i <;> first | (intro _; rfl) | cases hi)).run pins s σ H _ u Q I r ?_
  refine tE.mk rl (p.bnd.po.imp fun x1 φ1 h1 H1 s1 hr1 p1 V1 v1 rl1 => ?_)
  refine tE.mk rl1 (p1.bnd.po.imp fun x2 φ2 h2 H2 s2 hr2 p2 V2 v2 rl2 => ?_)
  cases x1 with
  | ref n =>
    cases x2 with
    | int k =>
      obtain rfl := vr_int v2
      dsimp only at p2
      cases e : isFl h2 n with
      | none => rw [e] at p2; exact p2.elim
      | some xs =>
        rw [e] at p2
        dsimp only at p2
        cases ej : ixN xs.length k with
        | none => rw [ej] at p2; exact p2.elim
        | some j =>
          rw [ej] at p2
          obtain ⟨a, vs, rfl, ea, eh, eH, vr⟩ := hr2.isFl e (VR.mono s2 (Ct.wm s2) _ _ v1)
          have s12 := s1.trans s2
          have q := VRs.set j vr (VR.mono s12 (Ct.wm s12) _ _ v)
          refine ⟨a, vs, k, j, rfl, rfl, eH, by rw [vr.len]; exact ej, ?_⟩
          have s3 : Stp φ2 φ2 H2 (upd H2 a (.lst (vs.set j V))) := (hr2.write ea eh q (fun _ _ z => z)).1
          have hr3 := (hr2.write ea eh q (Ct.wm (C := C) (σ := σ) s3)).2
          exact p2 φ2 _ s3 σ (rl2.on s3 hr3) Agr.refl
    | _ => exact p2.elim
  | _ => cases x2 <;> exact p2.elim

/-! ### statements -/
theorem ss_nil : PSs C.X [] (tS C fun ρ h => .ok (.nx ρ) h) := pss_nil.imp fun D σ H ⟨φ, ρ, h, rl, p⟩ => p φ H Stp.refl σ rl
theorem ss_cons {st : Stmt} {r : List Stmt} {f g} (h1 : PS C.X st (tS C f)) (h2 : PSs C.X r (tS C g)) :
    PSs C.X (st :: r) (tS C fun ρ h => (f ρ h).bnd fun f h => match f with
      | .nx ρ => g ρ h
      | f => .ok f h) := by
  refine (pss_cons h1 h2).imp fun D σ H ⟨φ, ρ, h, rl, p⟩ => ?_
  refine ⟨φ, ρ, h, rl, p.bnd.imp fun fl φ1 h1 H1 s1 p1 => ?_⟩
  cases fl with
  | nx ρ1 => exact fun σ1 rl1 => ⟨φ1, ρ1, h1, rl1, p1⟩
  | rt v => exact p1 φ1 H1 Stp.refl
  | bk ρ1 => exact p1 φ1 H1 Stp.refl
  | ct ρ1 => exact p1 φ1 H1 Stp.refl
theorem Rl.kil {φ h ρ σ H} (rl : Rl C φ h ρ σ H) (i : Nat) : Rl C φ (match slot ρ i with
    | some (.ref n) => h.set n .dead
    | _ => h) (ρ.set i none) σ H := by
  refine ⟨?_, ⟨fun j x e => ?_⟩⟩
  · split
    · rename_i n _
      have g : ∀ {k : Nat} {o : HV}, (h.set n .dead)[k]? = some o → h[k]? = some o ∨ o = .dead := fun {k o} e => by
        by_cases hk : k = n
        · subst hk
          by_cases hl : k < h.length
          · rw [List.getElem?_set_self hl] at e; cases e; exact .inr rfl
          · rw [List.getElem?_eq_none (by rw [List.length_set]; omega)] at e; cases e
        · rw [List.getElem?_set_ne (Ne.symm hk)] at e
          exact .inl e
      refine ⟨by rw [List.length_set]; exact rl.hr.len, fun k o a e1 e2 => ?_, fun k m a xs ys e1 e2 e3 e4 => ?_, rl.hr.tabs⟩
      · rcases g e1 with q | rfl
        · exact rl.hr.at_ k o a q e2
        · trivial
      · rcases g e3 with q | q
        · rcases g e4 with q' | q'
          · exact rl.hr.inj k m a xs ys e1 e2 q q'
          · cases q'
        · cases q
    · exact rl.hr
  · by_cases hj : j = i
    · subst hj
      by_cases hl : j < ρ.length
      · rw [List.getElem?_set_self hl] at e; cases e
      · rw [List.getElem?_eq_none (by rw [List.length_set]; omega)] at e; cases e
    · rw [List.getElem?_set_ne (Ne.symm hj)] at e
      exact rl.re.get j x e
theorem ss_kil {r : List Stmt} {i : Nat} {g} (h2 : PSs C.X r (tS C g)) :
    PSs C.X r (tS C fun ρ h => (Rz.ok (Fl.nx (ρ.set i none)) (match slot ρ i with
      | some (.ref n) => h.set n .dead
      | _ => h)).bnd fun f h => match f with
      | .nx ρ => g ρ h
      | f => .ok f h) :=
  h2.imp fun D σ H ⟨φ, ρ, h, rl, p⟩ => ⟨φ, _, _, rl.kil i, p⟩
theorem notComp_sw {e : Expr} {t : Option Expr} {l : Nat} {env : Env} (h : (match e with | .ListComp .. => false | .SetComp .. => false | .DictComp .. => false | _ => true) = true) : swapsWith e t l env = pure false := by
  cases e <;> first | rfl | cases h
/-- not a tuple: no stores are exchanged -/
theorem notTup_sw {e : Expr} {tg : Expr} {env : Env} (h : (match e with | .Tuple .. => false | _ => true) = true) : swappedStores [tg] e env = pure none := by
  cases e <;> first | (cases tg <;> rfl) | cases h
theorem notTup_sw2 {e : Expr} {tg : Expr} {env : Env} (h : (match tg with | .Tuple .. => false | .List .. => false | _ => true) = true) : swappedStores [tg] e env = pure none := by
  cases tg <;> first | (cases e <;> rfl) | cases h
theorem ss_asg {tg e : Expr} {pos : Pos} {ws f g} (hs : isStar tg = false) (he : PE C.X e (tE C f)) (hg : PG C.X tg (tG C ws g)) (h1 : swapsWith e (some tg) pos.line C.X.env = pure false) (h2 : swappedStores [tg] e C.X.env = pure none) :
    PS C.X (.Assign [tg] e pos) (tS C fun ρ h => (f ρ h).bnd fun v h => (g v ρ h).bnd fun ρ h => .ok (.nx ρ) h) := by
  refine (ps_asg he hg h1 h2 (by rw [assignEach_cons hs]; rfl)).imp fun D σ H ⟨φ, ρ, h, rl, p⟩ => ?_
  refine tE.mk rl (p.bnd.po.imp fun x φ1 h1 H1 s1 hr1 p1 V v rl1 => ?_)
  exact ⟨φ1, ρ, h1, x, rl1, v, p1.bnd.imp fun ρ2 φ2 h2 H2 s2 p2 σ2 rl2 _ => p2 φ2 H2 Stp.refl σ2 rl2⟩
theorem ss_if {c : Expr} {a b : List Stmt} {pos : Pos} {t f g} (hc : PT C.X c (tT C t)) (ha : PSs C.X a (tS C f)) (hb : PSs C.X b (tS C g)) :
    PS C.X (.If c a b pos) (tS C fun ρ h => (t ρ h).bnd fun k h => if k = true then f ρ h else g ρ h) := by
  refine (ps_if hc ha hb).imp fun D σ H ⟨φ, ρ, h, rl, p⟩ => ?_
  refine tT.mk rl (p.bnd.po.imp fun x φ1 h1 H1 s1 hr1 p1 rl1 => ?_)
  cases x with
  | true => exact iteT ⟨φ1, ρ, h1, rl1, p1⟩
  | false => exact iteF ⟨φ1, ρ, h1, rl1, p1⟩
theorem rt_ok {F : Cfg} {D : Ends} {φ σ H h ρ x V} (fl : C.flag = true → F.flag = true ∧ F.capd = C.capd) (rl : Rl C φ h ρ σ H) (v : VR C.Γ φ H (C.W σ H) x V) (p : PoG C φ H (retS F x h) (PoF C D)) : D.rt V H := by
  unfold retS at p
  split at p
  · obtain ⟨c, p⟩ := p.if_
    exact p φ H Stp.refl (rl.hr.kill) V (VR.noClo x V c v)
  · rename_i hf
    have hc : C.flag = false := by
      cases e : C.flag with
      | false => rfl
      | true => exact absurd (fl e).1 hf
    exact p φ H Stp.refl (rl.hr.w (Ct.w_off hc)) V (v.w (Ct.w_off hc))
theorem ss_ret {F : Cfg} {e : Expr} {pos : Pos} {f} (fl : C.flag = true → F.flag = true ∧ F.capd = C.capd) (he : PE C.X e (tE C f)) : PS C.X (.Return (some e) pos) (tS C fun ρ h => (f ρ h).bnd fun v h => retS F v h) := by
  refine (ps_ret he).imp fun D σ H ⟨φ, ρ, h, rl, p⟩ => ?_
  exact tE.mk rl (p.bnd.po.imp fun x φ1 h1 H1 s1 hr1 p1 V v rl1 => rt_ok fl rl1 v p1)
theorem ss_retN {F : Cfg} {pos : Pos} (fl : C.flag = true → F.flag = true ∧ F.capd = C.capd) : PS C.X (.Return none pos) (tS C fun _ h => retS F .non h) :=
  ps_retN.imp fun D σ H ⟨φ, ρ, h, rl, p⟩ => rt_ok (x := .non) (V := .non) fl rl (show VR C.Γ φ H (C.W σ H) .non .non from rfl) p
theorem ss_xpr {e : Expr} {pos : Pos} {f} (hs : swapsWith e none pos.line C.X.env = pure false) (he : PE C.X e (tE C f)) : PS C.X (.Expr e pos) (tS C fun ρ h => (f ρ h).bnd fun _ h => .ok (.nx ρ) h) := by
  refine (ps_expr he hs).imp fun D σ H ⟨φ, ρ, h, rl, p⟩ => ?_
  exact tE.mk rl (p.bnd.po.imp fun x φ1 h1 H1 s1 hr1 p1 V v rl1 => p1 φ1 H1 Stp.refl σ rl1)
theorem ss_pas {pos : Pos} : PS C.X (.Pass pos) (tS C fun ρ h => .ok (.nx ρ) h) := ps_pass.imp fun D σ H ⟨φ, ρ, h, rl, p⟩ => p φ H Stp.refl σ rl
theorem ss_brk {pos : Pos} : PS C.X (.Break pos) (tS C fun ρ h => .ok (.bk ρ) h) := ps_break.imp fun D σ H ⟨φ, ρ, h, rl, p⟩ => p φ H Stp.refl σ rl
theorem ss_cnt {pos : Pos} : PS C.X (.Continue pos) (tS C fun ρ h => .ok (.ct ρ) h) := ps_continue.imp fun D σ H ⟨φ, ρ, h, rl, p⟩ => p φ H Stp.refl σ rl
theorem pa_one {e : Expr} {f} (hs : isStar e = false) (he : PE C.X e (tE C f)) : PA C.X [e] (tCons (tE C f) tNil) := pa_cons he pa_nil (starEach_cons hs)
theorem nostar1 {e : Expr} {pos : Pos} {env : Env} (hs : isStar e = false) : ((backTo pos (starEach (e :: []) env)).all (fun x => !x.1) && (backToKw pos (keywordEach [] env)).all (fun x => x.1.isSome)
      && decide ((e :: []).length + ([] : List Keyword).length + (if ([] : List Keyword).isEmpty then 0 else 1) < 30)) = true := by
  rw [starEach_cons hs]; rfl
theorem ss_app {l e : Expr} {p pos pos' : Pos} {f g} (hK : C.X.K = C.Γ.K) (hs : isStar e = false) (hl : PE C.X l (tE C f)) (he : PE C.X e (tE C g)) (hb : attributeBase l "append" C.X.env (eval l C.X.env) = eval l C.X.env) (hln : (p.endLine == pos.line) = true) :
    PS C.X (.Expr (.Call (.Attribute l "append" p) [e] [] pos) pos') (tS C fun ρ h => (f ρ h).bnd fun x h => match x with
    | .ref n => match isFl h n with
      | some _ => (g ρ h).bnd fun y h => match isFl h n with
        | some xs => if xs.length < sizeLine then .ok (.nx ρ) (h.set n (.lst false (xs ++ [y]))) else .err
        | none => .err
      | none => .err
    | _ => .err) := by
  have pe := pe_bm (X := C.X) PySem.F.plainAttrs_list PySem.F.slot_list_append PySem.F.type_list_append mt_append hl (pa_one hs he) hb (nostar1 hs) hln (starEach_cons hs) rfl
  refine (ps_expr pe).imp fun D σ H ⟨φ, ρ, h, rl, p⟩ => ?_
  refine tE.mk rl (p.bnd.po.imp fun x φ1 h1 H1 s1 hr1 p1 V1 v1 rl1 => ?_)
  cases x with
  | ref n =>
    dsimp only at p1
    cases e1 : isFl h1 n with
    | none => rw [e1] at p1; exact p1.elim
    | some xs =>
      rw [e1] at p1
      obtain ⟨a, vs, rfl, ea, eh, eH, vr⟩ := hr1.isFl e1 v1
      refine ⟨.inl ⟨rfl, vs, .of eH⟩, tE.mk rl1 ((show PoG C φ1 H1 ((g ρ h1).bnd _) _ from p1).bnd.po.imp fun y φ2 h2 H2 s2 hr2 p2 V2 v2 rl2 => ?_)⟩
      cases e2 : isFl h2 n with
      | none => rw [e2] at p2; exact p2.elim
      | some ys =>
        rw [e2] at p2
        obtain ⟨c, p2⟩ := (show PoG C φ2 H2 (if ys.length < sizeLine then _ else _) _ from p2).if_
        obtain ⟨a', us, q, ea2, eh2, eH2, vr2⟩ := hr2.isFl e2 (VR.mono s2 (Ct.wm s2) _ _ v1)
        cases q
        have q := VRs.app vr2 (VRs.cons' v2 (show VRs C.Γ φ2 H2 (C.W σ H2) [] [] from rfl))
        have s3 : Stp φ2 φ2 H2 (upd H2 a (.lst (us ++ [V2]))) := (hr2.write ea2 eh2 q (fun _ _ z => z)).1
        have hr3 := (hr2.write ea2 eh2 q (Ct.wm (C := C) (σ := σ) s3)).2
        exact ⟨a, us, V2, rfl, rfl, eH2, by rw [vr2.len]; exact c, p2 φ2 _ s3 σ (rl2.on s3 hr3)⟩
  | _ => exact p1.elim
theorem ss_ext {l e : Expr} {p pos pos' : Pos} {f g} (hK : C.X.K = C.Γ.K) (hs : isStar e = false) (hl : PE C.X l (tE C f)) (he : PE C.X e (tE C g)) (hb : attributeBase l "extend" C.X.env (eval l C.X.env) = eval l C.X.env) (hln : (p.endLine == pos.line) = true) :
    PS C.X (.Expr (.Call (.Attribute l "extend" p) [e] [] pos) pos') (tS C fun ρ h => (f ρ h).bnd fun x h => match x with
    | .ref n => match isFl h n with
      | some _ => (g ρ h).bnd fun y h => match y with
        | .ref m => match isFl h n, isFl h m with
          | some xs, some ys => if xs.length + ys.length ≤ sizeLine then .ok (.nx ρ) (h.set n (.lst false (xs ++ ys))) else .err
          | _, _ => .err
        | _ => .err
      | none => .err
    | _ => .err) := by
  have pe := pe_bm (X := C.X) PySem.F.plainAttrs_list PySem.F.slot_list_extend PySem.F.type_list_extend mt_extend hl (pa_one hs he) hb (nostar1 hs) hln (starEach_cons hs) rfl
  refine (ps_expr pe).imp fun D σ H ⟨φ, ρ, h, rl, p⟩ => ?_
  refine tE.mk rl (p.bnd.po.imp fun x φ1 h1 H1 s1 hr1 p1 V1 v1 rl1 => ?_)
  cases x with
  | ref n =>
    dsimp only at p1
    cases e1 : isFl h1 n with
    | none => rw [e1] at p1; exact p1.elim
    | some xs =>
      rw [e1] at p1
      obtain ⟨a, vs, rfl, ea, eh, eH, vr⟩ := hr1.isFl e1 v1
      refine ⟨.inl ⟨rfl, vs, .of eH⟩, tE.mk rl1 ((show PoG C φ1 H1 ((g ρ h1).bnd _) _ from p1).bnd.po.imp fun y φ2 h2 H2 s2 hr2 p2 V2 v2 rl2 => ?_)⟩
      cases y with
      | ref m =>
        dsimp only at p2
        cases e2 : isFl h2 n with
        | none => rw [e2] at p2; exact p2.elim
        | some ys =>
          cases e3 : isFl h2 m with
          | none => rw [e2, e3] at p2; exact p2.elim
          | some zs =>
            rw [e2, e3] at p2
            obtain ⟨c, p2⟩ := (show PoG C φ2 H2 (if ys.length + zs.length ≤ sizeLine then _ else _) _ from p2).if_
            obtain ⟨a', us, q, ea2, eh2, eH2, vr2⟩ := hr2.isFl e2 (VR.mono s2 (Ct.wm s2) _ _ v1)
            cases q
            obtain ⟨b, ws, rfl, ea3, eh3, eH3, vr3⟩ := hr2.isFl e3 v2
            have q := VRs.app vr2 vr3
            have s3 : Stp φ2 φ2 H2 (upd H2 a (.lst (us ++ ws))) := (hr2.write ea2 eh2 q (fun _ _ z => z)).1
            have hr3 := (hr2.write ea2 eh2 q (Ct.wm (C := C) (σ := σ) s3)).2
            exact ⟨a, b, us, ws, rfl, rfl, eH2, eH3, by rw [vr2.len, vr3.len]; exact c, p2 φ2 _ s3 σ (rl2.on s3 hr3)⟩
      | _ => exact p2.elim
  | _ => exact p1.elim
end
end EV
set_option linter.all false
set_option maxRecDepth 100000
set_option maxHeartbeats 1000000
/-! Ev9: loops, ranges, comprehensions. -/
namespace EV
open PySem PySem.Spec PyProof.Rows L2
section
variable {C : Ct}
theorem ss_whl {c : Expr} {b : List Stmt} {pos : Pos} {t f} {wf : Nat} (hp : PassesOwn (model C.X.prog C.X.w) C.X.A C.X.env C.X.xe) (hc : PT C.X c (tT C t)) (hb : PSs C.X b (tS C f)) :
    PS C.X (.While c b [] pos) (tS C fun ρ h => whileL t f wf ρ h) := by
  refine (ps_while hp hc hb).imp fun D σ H ⟨φ, ρ, h, rl, p⟩ => ?_
  refine ⟨fun m σ H => ∃ φ ρ h, Rl C φ h ρ σ H ∧ PoG C φ H (whileL t f m ρ h) (PoF C D), ⟨wf, φ, ρ, h, rl, p⟩, fun m σ H ⟨φ, ρ, h, rl, p⟩ => ?_⟩
  cases m with
  | zero => exact p.elim
  | succ n =>
    refine tT.mk rl ((show PoG C φ H ((t ρ h).bnd _) _ from p).bnd.po.imp fun k φ1 h1 H1 s1 hr1 p1 rl1 => ?_)
    cases k with
    | false => exact iteF (p1 φ1 H1 Stp.refl σ rl1)
    | true =>
      refine iteT ⟨fun σ H => ∃ φ ρ h, Rl C φ h ρ σ H ∧ PoG C φ H (whileL t f n ρ h) (PoF C D), fun σ' H' z => ⟨n, Nat.lt_succ_self _, z⟩, φ1, ρ, h1, rl1, ?_⟩
      refine (show PoG C φ1 H1 ((f ρ h1).bnd _) _ from p1).bnd.imp fun fl φ2 h2 H2 s2 p2 => ?_
      cases fl with
      | nx ρ2 => exact fun σ2 rl2 => ⟨φ2, ρ2, h2, rl2, p2⟩
      | ct ρ2 => exact fun σ2 rl2 => ⟨φ2, ρ2, h2, rl2, p2⟩
      | bk ρ2 => exact p2 φ2 H2 Stp.refl
      | rt v => exact p2 φ2 H2 Stp.refl

/-! ### what is walked -/
def JR (Γ : Gm) (φ : List Addr) (H : Hp) (W : Cw) (it : EV.It) (J : L2.It) : Prop := match it with
  | .fix xs => ∃ p vs, J = Itt Γ.K p ∧ SqT Γ.K H p vs ∧ VRs Γ φ H W xs vs
  | .ref n => ∃ a, J = Itl Γ.K a ∧ φ[n]? = some a
  | .rng lo n => J = Itr lo n
theorem JR.mono {Γ φ φ' H H' W W' it J} (s : Stp φ φ' H H') (w : ∀ c v, W c v → W' c v) (j : JR Γ φ H W it J) : JR Γ φ' H' W' it J := by
  cases it with
  | fix xs =>
    obtain ⟨p, vs, e, st, v⟩ := j
    exact ⟨p, vs, e, s.sqT st, VRs.mono s w _ _ v⟩
  | ref n =>
    obtain ⟨a, e, q⟩ := j
    exact ⟨a, e, s.pre _ _ q⟩
  | rng lo n => exact j
def tI (C : Ct) (f : En → Hh → Rz EV.It) : TI := fun σ H R => ∃ φ ρ h, Rl C φ h ρ σ H ∧ Po C φ σ H (f ρ h) fun it φ' h' H' => ∀ J, JR C.Γ φ' H' (C.W σ H') it J → (∀ n, it = .ref n → ∃ xs, getL h' n = some xs) → R J H'
/-- a value, walked -/
def ofI (f : En → Hh → Rz PV) : En → Hh → Rz EV.It := fun ρ h => (f ρ h).bnd fun v h => match v with
  | .tup xs => .ok (.fix xs) h
  | .ref n => match getL h n with
    | some _ => .ok (.ref n) h
    | none => .err
  | _ => .err
theorem tE.of {C : Ct} {f σ H φ ρ h x h1} {Q : L2.V → Hp → Prop} (rl : Rl C φ h ρ σ H) (e : f ρ h = .ok x h1) (q : ∀ φ' H' V, Stp φ φ' H H' → HR C.Γ φ' H' (C.W σ H') h1 → VR C.Γ φ' H' (C.W σ H') x V → Q V H') : tE C f σ H Q :=
  ⟨φ, ρ, h, rl, by rw [e]; exact fun φ' H' s hr V v => q φ' H' V s hr v⟩
theorem si_val {tg e : Expr} {f} (hK : C.X.K = C.Γ.K) (he : PE C.X e (tE C f)) : PI C.X tg e (tI C (ofI f)) := by
  refine ⟨fun pins s σ H R I ⟨φ, ρ, h, rl, po⟩ => ?_⟩
  unfold ofI at po
  cases e : f ρ h with
  | ok x h1 =>
    rw [e] at po
    cases x with
    | tup xs =>
      refine (pi_tup he).run pins s σ H R I (tE.of rl e fun φ' H' V s' hr v => ?_)
      obtain ⟨p, vs, rfl, st, vr⟩ := vr_tup v
      rw [hK]
      exact ⟨p, rfl, ⟨vs, st⟩, (show Po C φ σ H (.ok (EV.It.fix xs) h1) _ from po) φ' H' s' hr _ ⟨p, vs, rfl, st, vr⟩ fun n z => nomatch z⟩
    | ref n =>
      refine (pi_list he).run pins s σ H R I (tE.of rl e fun φ' H' V s' hr v => ?_)
      rw [hK]
      have po : Po C φ σ H (match getL h1 n with
        | some _ => Rz.ok (EV.It.ref n) h1
        | none => .err) _ := po
      cases e2 : getL h1 n with
      | none => rw [e2] at po; exact po.elim
      | some xs =>
        rw [e2] at po
        obtain ⟨a, vs, rfl, st, vr⟩ := hr.getL e2 v
        simp only [VR] at v
        obtain ⟨b, eb, z⟩ := v
        cases z
        exact ⟨a, rfl, ⟨vs, st⟩, po φ' H' s' hr _ ⟨a, rfl, eb⟩ fun n' z => by cases z; exact ⟨xs, e2⟩⟩
    | _ => exact po.elim
  | ex c v h1 =>
    rw [e] at po
    exact (pi_tup he).run pins s σ H R I ⟨φ, ρ, h, rl, by rw [e]; exact po⟩
  | err =>
    rw [e] at po
    exact po.elim
theorem si_rng1 {tg a : Expr} {p pos : Pos} {f} (hg : Gl C.X "range") (hm : C.X.mg "range" = none) (hs : isStar a = false) (ha : PE C.X a (tE C f)) :
    PI C.X tg (.Call (.Name "range" p) [a] [] pos) (tI C fun ρ h => (f ρ h).bnd fun x h => match x with
      | .int n => if n.natAbs ≤ 1000000 then .ok (.rng 0 n.toNat) h else .err
      | _ => .err) := by
  refine ⟨fun pins s σ H R I ⟨φ, ρ, h, rl, po⟩ => ?_⟩
  refine (pi_range1 hg hm (pa_one hs ha) (starEach_cons hs)).run pins s σ H R I ?_
  refine tE.mk rl (po.bnd.imp fun x φ1 h1 H1 s1 hr1 p1 V v rl1 => ?_)
  cases x with
  | int n =>
    obtain rfl := vr_int v
    obtain ⟨c, p1⟩ := Po.if_ (show Po C φ1 σ H1 (if n.natAbs ≤ 1000000 then _ else _) _ from p1)
    exact ⟨n, rfl, by omega, by omega, p1.ok' hr1 _ rfl fun n z => nomatch z⟩
  | _ => exact p1.elim
theorem si_rng2 {tg a b : Expr} {p pos : Pos} {f g} (hg : Gl C.X "range") (hm : C.X.mg "range" = none) (hs : isStar a = false) (hs2 : isStar b = false) (ha : PE C.X a (tE C f)) (hb : PE C.X b (tE C g)) :
    PI C.X tg (.Call (.Name "range" p) [a, b] [] pos) (tI C fun ρ h => (f ρ h).bnd fun x h => (g ρ h).bnd fun y h => match x, y with
      | .int l, .int n => if l.natAbs ≤ 1000000 ∧ n.natAbs ≤ 1000000 then .ok (.rng l (n - l).toNat) h else .err
      | _, _ => .err) := by
  refine ⟨fun pins s σ H R I ⟨φ, ρ, h, rl, po⟩ => ?_⟩
  refine (pi_range2 hg hm (pa_cons ha (pa_one hs2 hb) (starEach_cons hs)) (by rw [starEach_cons hs, starEach_cons hs2]; rfl) (by rw [starEach_cons hs2]; rfl)).run pins s σ H R I ?_
  refine tE.mk rl (po.bnd.imp fun x φ1 h1 H1 s1 hr1 p1 V v rl1 => ?_)
  refine tE.mk rl1 (p1.bnd.imp fun y φ2 h2 H2 s2 hr2 p2 U u rl2 => ?_)
  cases x with
  | int l =>
    cases y with
    | int n =>
      obtain rfl := vr_int v
      obtain rfl := vr_int u
      obtain ⟨c, p2⟩ := Po.if_ (show Po C φ2 σ H2 (if l.natAbs ≤ 1000000 ∧ n.natAbs ≤ 1000000 then _ else _) _ from p2)
      exact ⟨l, n, rfl, ⟨by omega, by omega, by omega, by omega⟩, p2.ok' hr2 _ rfl fun n z => nomatch z⟩
    | _ => exact p2.elim
  | _ => cases y <;> exact p2.elim

/-- what a turn finds -/
theorem item_ok {Γ φ H W h it J k} (hr : HR Γ φ H W h) (j : JR Γ φ H W it J) : match itemAt it k h with
    | none => True
    | some none => J.stop k H
    | some (some x) => J.go k H ∧ ∀ V H', J.yld k H V H' → H' = H ∧ VR Γ φ H W x V := by
  cases it with
  | fix xs =>
    obtain ⟨p, vs, rfl, st, v⟩ := j
    show match some xs[k]? with
      | none => True
      | some none => _
      | some (some x) => _
    cases e : xs[k]? with
    | none =>
      refine ⟨vs, st, ?_⟩
      rw [v.len]
      exact List.getElem?_eq_none_iff.mp e
    | some x =>
      obtain ⟨V, e1, z⟩ := v.get e
      exact ⟨⟨vs, V, st, e1⟩, fun U H' ⟨q1, q2⟩ => ⟨q1, by
        have := q2 vs st
        rw [e1] at this; cases this
        exact z⟩⟩
  | ref n =>
    obtain ⟨a, rfl, ea⟩ := j
    show match (match getL h n with
      | some xs => some xs[k]?
      | none => none) with
      | none => True
      | some none => _
      | some (some x) => _
    cases e0 : getL h n with
    | none => trivial
    | some xs =>
      obtain ⟨b, vs, q, st, v⟩ := hr.getL e0 (V := .ref a) (by simp only [VR]; exact ⟨a, ea, rfl⟩)
      cases q
      dsimp only
      cases e : xs[k]? with
      | none =>
        refine ⟨vs, st, ?_⟩
        rw [v.len]
        exact List.getElem?_eq_none_iff.mp e
      | some x =>
        obtain ⟨V, e1, z⟩ := v.get e
        exact ⟨⟨vs, V, st, e1⟩, fun U H' ⟨q1, q2⟩ => ⟨q1, by
          have := q2 vs st
          rw [e1] at this; cases this
          exact z⟩⟩
  | rng lo n =>
    obtain rfl : J = Itr lo n := j
    show match some (if k < n then some (PV.int (lo + k)) else none) with
      | none => True
      | some none => _
      | some (some x) => _
    by_cases c : k < n
    · rw [if_pos c]
      exact ⟨c, fun U H' ⟨q1, q2⟩ => ⟨q1, q2⟩⟩
    · rw [if_neg c]
      exact Nat.not_lt.mp c
theorem JR.sw {φ H σ σ' it J} (c : C.flag = true → it.noClo = true) (j : JR C.Γ φ H (C.W σ H) it J) : JR C.Γ φ H (C.W σ' H) it J := by
  cases it with
  | fix xs =>
    obtain ⟨p, vs, e, st, v⟩ := j
    refine ⟨p, vs, e, st, ?_⟩
    cases hf : C.flag with
    | false => exact v.w fun c u z => Ct.w_on c u (Ct.w_off hf c u z)
    | true => exact VRs.noClo _ _ (c hf) v
  | ref n => exact j
  | rng lo n => exact j
theorem ss_for {F : Cfg} {tg it : Expr} {b : List Stmt} {pos : Pos} {i g f ws} {wf : Nat} (fl : C.flag = true → F.flag = true ∧ F.capd = C.capd) (hp : PassesOwn (model C.X.prog C.X.w) C.X.A C.X.env C.X.xe) (hc : C.X.calm = true) (hi : PI C.X tg it (tI C i)) (hg : PG C.X tg (tG C ws g)) (hb : PSs C.X b (tS C f))
    (hs : ∀ x, foldedSetIterable it C.X.env x = pure x) :
    PS C.X (.For tg it b [] pos) (tS C fun ρ h => (i ρ h).bnd fun it h => if (!F.flag || it.noClo) = true then forL g f it wf 0 ρ h else .err) := by
  refine (ps_for hp hc hi hg hb hs).imp fun D σ H ⟨φ, ρ, h, rl, p⟩ => ?_
  refine ⟨φ, ρ, h, rl, p.bnd.po.imp fun it φ1 h1 H1 s1 hr1 p1 J j _ => ?_⟩
  obtain ⟨c, p1⟩ := p1.if_
  have nc : C.flag = true → it.noClo = true := fun hf => by
    rw [(fl hf).1] at c
    simpa using c
  refine ⟨fun k m σ H => ∃ φ ρ h, Rl C φ h ρ σ H ∧ JR C.Γ φ H (C.W σ H) it J ∧ PoG C φ H (forL g f it m k ρ h) (PoF C D), ⟨wf, φ1, ρ, h1, rl.on s1 hr1, j, p1⟩, fun k m σ H ⟨φ, ρ, h, rl, j, p⟩ => ?_⟩
  cases m with
  | zero => exact p.elim
  | succ n =>
    have q := item_ok (k := k) rl.hr j
    unfold forL at p
    cases e : itemAt it k h with
    | none => rw [e] at p; exact p.elim
    | some o =>
      rw [e] at p q
      cases o with
      | none => exact .inl ⟨q, p φ H Stp.refl σ rl⟩
      | some v =>
        dsimp only at p q
        refine .inr ⟨q.1, fun σ H => ∃ φ ρ h, Rl C φ h ρ σ H ∧ JR C.Γ φ H (C.W σ H) it J ∧ PoG C φ H (forL g f it n (k + 1) ρ h) (PoF C D), fun σ' H' z => ⟨n, Nat.lt_succ_self _, z⟩, fun V H' y => ?_⟩
        obtain ⟨rfl, vr⟩ := q.2 V H' y
        refine ⟨φ, ρ, h, v, rl, vr, p.bnd.imp fun ρ2 φ2 h2 H2 s2 p2 σ2 rl2 _ => ⟨φ2, ρ2, h2, rl2, p2.bnd.imp fun fl3 φ3 h3 H3 s3 p3 => ?_⟩⟩
        have j3 : ∀ σ', JR C.Γ φ3 H3 (C.W σ' H3) it J := fun σ' => (j.mono (s2.trans s3) (Ct.wm (s2.trans s3))).sw nc
        cases fl3 with
        | nx ρ3 => exact fun σ3 rl3 => ⟨φ3, ρ3, h3, rl3, j3 σ3, p3⟩
        | ct ρ3 => exact fun σ3 rl3 => ⟨φ3, ρ3, h3, rl3, j3 σ3, p3⟩
        | bk ρ3 => exact p3 φ3 H3 Stp.refl
        | rt v => exact p3 φ3 H3 Stp.refl

/-! ### comprehensions -/
theorem Rl.sw {C C' : Ct} {φ h ρ σ H} (g : C'.Γ = C.Γ) (w : ∀ c v, C.W σ H c v → C'.W σ H c v) (r : Rl C φ h ρ σ H) : Rl C' φ h ρ σ H := by
  refine ⟨?_, ?_⟩
  · rw [g]; exact r.hr.w w
  · rw [g]; exact r.re.mono Stp.refl w
/-- the block's context -/
abbrev Ct.blk (C : Ct) (X : Cx) : Ct := ⟨C.Γ, X, false, [], fun _ _ _ => False⟩
theorem blkW {C : Ct} {X X' : Cx} {σ H} : ∀ c v, (C.blk X).W σ H c v → (C.blk X').W σ H c v := fun c v z => .inl (Ct.w_off rfl c v z)
theorem blk_sw {C : Ct} {X X' : Cx} {φ h ρ σ H} (r : Rl (C.blk X) φ h ρ σ H) : Rl (C.blk X') φ h ρ σ H := Rl.sw (C := C.blk X) (C' := C.blk X') rfl blkW r
theorem blkG {C : Ct} {X X' : Cx} {ws f V σ H Q} (t : tG (C.blk X) ws f V σ H Q) : tG (C.blk X') ws f V σ H Q := by
  obtain ⟨φ, ρ, h, v, rl, vr, p⟩ := t
  exact ⟨φ, ρ, h, v, blk_sw rl, vr.w blkW, PoG.imp (C := C.blk X') (show PoG (C.blk X') φ H (f v ρ h) _ from p) fun a φ' h' H' s q σ' rl' => q σ' (blk_sw rl')⟩
theorem blkPo {α : Type} {C : Ct} {X X' : Cx} {φ σ H} {r : Rz α} {k} (p : Po (C.blk X) φ σ H r k) : Po (C.blk X') φ σ H r k := by
  cases r with
  | ok a h => exact fun φ' H' s hr => p φ' H' s (hr.w blkW)
  | ex c v h => exact p
  | err => exact p
theorem blkE {C : Ct} {X X' : Cx} {f σ H Q} (t : tE (C.blk X) f σ H Q) : tE (C.blk X') f σ H Q := by
  obtain ⟨φ, ρ, h, rl, p⟩ := t
  exact ⟨φ, ρ, h, blk_sw rl, (blkPo (X' := X') p).imp fun a φ' h' H' s hr q V v => q V (v.w blkW)⟩
theorem blkT {C : Ct} {X X' : Cx} {f σ H Q} (t : tT (C.blk X) f σ H Q) : tT (C.blk X') f σ H Q := by
  obtain ⟨φ, ρ, h, rl, p⟩ := t
  exact ⟨φ, ρ, h, blk_sw rl, blkPo (X' := X') p⟩
theorem _root_.L2.PG.imp {X : Cx} {e : Expr} {t t' : TG} (h : PG X e t) (i : ∀ V σ H Q, t' V σ H Q → t V σ H Q) : PG X e t' := ⟨fun pins s σ H v u Q I r q => h.run pins s σ H v u Q I r (i v σ H Q q)⟩
theorem _root_.L2.PTs.imp {X : Cx} {e : List Expr} {t t' : TT} (h : PTs X e t) (i : ∀ σ H Q, t' σ H Q → t σ H Q) : PTs X e t' := ⟨fun pins s σ H Q I q => h.run pins s σ H Q I (i σ H Q q)⟩
/-- no error leaves: what follows is asked of any context -/
theorem PoG.nox {α : Type} {C : Ct} {φ H} {r : Rz α} {k} {X : Cx} (p : PoG C φ H r.nox k) : PoG (C.blk X) φ H r k := by
  cases r with
  | ok a h => exact p
  | ex c v h => exact p.elim
  | err => exact p
theorem RE.wipe {Γ φ H W ρ σ} (r : RE Γ φ H W ρ σ) : ∀ vs : List Nat, RE Γ φ H W (wipeE ρ vs) (wipe σ vs)
  | [] => r
  | v :: vs => ⟨fun i x e => by
    unfold wipeE at e
    unfold L2.wipe
    by_cases hi : v = i
    · subst hi
      by_cases hl : v < (wipeE ρ vs).length
      · rw [List.getElem?_set_self hl] at e; cases e
      · rw [List.getElem?_eq_none (by rw [List.length_set]; omega)] at e; cases e
    · rw [List.getElem?_set_ne hi] at e
      obtain ⟨u, e1, z⟩ := (RE.wipe r vs).get i x e
      exact ⟨u, by rw [List.getElem?_set_ne hi]; exact e1, z⟩⟩
theorem wipe_key : ∀ (vs : List Nat) (σ : L2.St) (i : Nat), (wipe σ vs)[i]? = if i ∈ vs ∧ i < σ.length then some none else σ[i]? := by
  intro vs
  induction vs with
  | nil => intro σ i; simp [wipe]
  | cons v r ih =>
    intro σ i
    unfold wipe
    by_cases hv : v = i
    · subst hv
      by_cases hl : v < σ.length
      · rw [List.getElem?_set_self (by rw [wipe_length]; exact hl), if_pos ⟨List.mem_cons_self, hl⟩]
      · rw [List.getElem?_eq_none (by rw [List.length_set, wipe_length]; omega), if_neg (fun z => hl z.2), List.getElem?_eq_none (by omega)]
    · rw [List.getElem?_set_ne hv, ih]
      have e : (i ∈ r ∧ i < σ.length) ↔ (i ∈ v :: r ∧ i < σ.length) := by
        rw [List.mem_cons]
        exact ⟨fun z => ⟨.inr z.1, z.2⟩, fun z => ⟨z.1.elim (fun q => absurd q.symm hv) id, z.2⟩⟩
      by_cases c : i ∈ r ∧ i < σ.length
      · rw [if_pos c, if_pos (e.mp c)]
      · rw [if_neg c, if_neg fun z => c (e.mpr z)]
theorem wipe_agr {vs ws : List Nat} {σ σ' : L2.St} (a : Agr ws (wipe σ vs) σ') (h : ∀ i, i ∈ ws → i ∈ vs) : wipe σ' vs = wipe σ vs := by
  have l : σ'.length = σ.length := by rw [a.1, wipe_length]
  refine List.ext_getElem? fun i => ?_
  rw [wipe_key, wipe_key, l]
  by_cases hi : i ∈ vs ∧ i < σ.length
  · rw [if_pos hi, if_pos hi]
  · rw [if_neg hi, if_neg hi]
    by_cases hm : i ∈ vs
    · have hl : ¬ i < σ.length := fun z => hi ⟨hm, z⟩
      rw [List.getElem?_eq_none (by omega), List.getElem?_eq_none (by omega)]
    · rw [a.2 i fun z => hm (h i z), wipe_key, if_neg hi]
theorem Po.noxB {C : Ct} {φ σ H} {r : Rz PV} {K} {X : Cx} (p : Po C φ σ H r.nox K) : PoG (C.blk X) φ H r (fun v φ' h' H' => HR C.Γ φ' H' (Trk H') h' → K v φ' h' H') := by
  cases r with
  | ok a h => exact fun φ' H' s hr => p φ' H' s (hr.w Ct.w_on)
  | ex c v h => exact p.elim
  | err => exact p.elim
theorem JR.off {φ H σ it J} (c : C.flag = true → it.noClo = true) (j : JR C.Γ φ H (C.W σ H) it J) : JR C.Γ φ H (Trk H) it J := by
  cases it with
  | fix xs =>
    obtain ⟨p, vs, e, st, v⟩ := j
    refine ⟨p, vs, e, st, ?_⟩
    cases hf : C.flag with
    | false => exact v.w fun c u z => Ct.w_off hf c u z
    | true => exact VRs.noClo _ _ (c hf) v
  | ref n => exact j
  | rng lo n => exact j
theorem killH_len {h : Hh} : (killH h).length = h.length := by unfold killH; rw [List.length_map]
theorem se_lc {F : Cfg} {elt tg iter : Expr} {ifs : List Expr} {scope : Scope} {own : List (Str × Nat)} {i g t f ws} {wf : Nat} (fl : C.flag = true → F.flag = true ∧ F.capd = C.capd) (hc : C.X.calm = true) (nd : C.X.N.Nodup)
    (hi : PI C.X tg iter (tI C i)) (ok : BlkOk C.X.N C.X.env.scope scope own) (hw : ∀ i, i ∈ ws → i ∈ own.map (·.2))
    (hg : ∀ (s : Shared) (H : Hp) (c : Addr) (cl : List (Str × Addr)) (fp : List Addr), PG (C.X.blk s H scope (compEnvC scope cl c C.X.env) fp) tg (tG (C.blk (C.X.blk s H scope (compEnvC scope cl c C.X.env) fp)) ws g))
    (ht : ∀ (s : Shared) (H : Hp) (c : Addr) (cl : List (Str × Addr)) (fp : List Addr), PTs (C.X.blk s H scope (compEnvC scope cl c C.X.env) fp) ifs (tT (C.blk (C.X.blk s H scope (compEnvC scope cl c C.X.env) fp)) t))
    (he : ∀ (s : Shared) (H : Hp) (c : Addr) (cl : List (Str × Addr)) (fp : List Addr), PE (C.X.blk s H scope (compEnvC scope cl c C.X.env) fp) elt (tE (C.blk (C.X.blk s H scope (compEnvC scope cl c C.X.env) fp)) f))
    (hs : ∀ x, foldedSetIterable iter C.X.env x = pure x) {σ H Q}
    (ti : tE C (fun ρ h => (i ρ h).bnd fun it h => if (!F.flag || it.noClo) = true then
      (compL g t f it (wipeE (if F.flag then killE ρ else ρ) (own.map (·.2))) h.length wf 0 ((if F.flag then killH h else h) ++ [.lst false []])).nox else .err) σ H Q) :
    tLc (tI C i) (tG (C.blk C.X) ws g) (tT (C.blk C.X) t) (tE (C.blk C.X) f) (own.map (·.2)) σ H Q := by
  obtain ⟨φ, ρ, h, rl, p⟩ := ti
  refine ⟨φ, ρ, h, rl, p.bnd.imp fun it φ1 h1 H1 s1 hr1 p1 J j _ D hD => ?_⟩
  obtain ⟨c, p1⟩ := p1.if_
  have nc : C.flag = true → it.noClo = true := fun hf => by
    rw [(fl hf).1] at c
    simpa using c
  have hrT : HR C.Γ φ1 H1 (Trk H1) (if F.flag = true then killH h1 else h1) := by
    by_cases hf : F.flag = true
    · rw [if_pos hf]; exact hr1.kill
    · rw [if_neg hf]
      refine hr1.w (Ct.w_off ?_)
      cases e : C.flag with
      | false => rfl
      | true => exact absurd (fl e).1 hf
  have reT : RE C.Γ φ1 H1 (Trk H1) (if F.flag = true then killE ρ else ρ) σ := by
    have r := rl.re.mono s1 (Ct.wm s1)
    by_cases hf : F.flag = true
    · rw [if_pos hf]; exact r.kill
    · rw [if_neg hf]
      refine r.mono Stp.refl (Ct.w_off ?_)
      cases e : C.flag with
      | false => rfl
      | true => exact absurd (fl e).1 hf
  have ln : (if F.flag = true then killH h1 else h1).length = h1.length := by
    split
    · exact killH_len
    · rfl
  generalize (if F.flag = true then killH h1 else h1) = h1k at p1 hrT ln
  generalize (if F.flag = true then killE ρ else ρ) = ρk at p1 reT
  have sD : Stp φ1 (φ1 ++ [D]) H1 (upd H1 D (.lst [])) := stp_add hD
  have tw : ∀ {φ φ' : List Addr} {H H' : Hp} (s : Stp φ φ' H H'), ∀ c v, Trk H c v → Trk H' c v := fun s c v z => z.mono s
  have hrD : HR C.Γ (φ1 ++ [D]) (upd H1 D (.lst [])) (Trk (upd H1 D (.lst []))) (h1k ++ [.lst false []]) := hrT.add hD (tw sD) ⟨[], upd_same, rfl⟩
  have pD : (φ1 ++ [D])[h1.length]? = some D := by rw [← hr1.len, List.getElem?_concat_length]
  have pb := (Po.noxB (X := C.X) (p1.step sD))
  refine ⟨fun k m H => ∃ φ h, HR C.Γ φ H (Trk H) h ∧ RE C.Γ φ H (Trk H) (wipeE ρk (own.map (·.2))) (wipe σ (own.map (·.2))) ∧ JR C.Γ φ H (Trk H) it J ∧ φ[h1.length]? = some D ∧
    PoG (C.blk C.X) φ H (compL g t f it (wipeE ρk (own.map (·.2))) h1.length m k h) (fun v φ' h' H' => HR C.Γ φ' H' (Trk H') h' → ∀ V, VR C.Γ φ' H' (C.W σ H') v V → Q V H'),
    ⟨wf, φ1 ++ [D], _, hrD, (reT.mono sD (tw sD)).wipe _, (j.off nc).mono sD (tw sD), pD, pb⟩, fun k m H ⟨φ, h, hr, re, j, pd, p⟩ => ?_⟩
  cases m with
  | zero => exact p.elim
  | succ n =>
    have q := item_ok (k := k) hr j
    unfold compL at p
    cases e : itemAt it k h with
    | none => rw [e] at p; exact p.elim
    | some o =>
      rw [e] at p q
      cases o with
      | none =>
        refine .inl ⟨q, p φ H Stp.refl hr (.ref D) ?_⟩
        simp only [VR]
        exact ⟨D, pd, rfl⟩
      | some v =>
        dsimp only at p q
        refine .inr ⟨q.1, fun H => ∃ φ h, HR C.Γ φ H (Trk H) h ∧ RE C.Γ φ H (Trk H) (wipeE ρk (own.map (·.2))) (wipe σ (own.map (·.2))) ∧ JR C.Γ φ H (Trk H) it J ∧ φ[h1.length]? = some D ∧
          PoG (C.blk C.X) φ H (compL g t f it (wipeE ρk (own.map (·.2))) h1.length n (k + 1) h) (fun v φ' h' H' => HR C.Γ φ' H' (Trk H') h' → ∀ V, VR C.Γ φ' H' (C.W σ H') v V → Q V H'),
          fun H' z => ⟨n, Nat.lt_succ_self _, z⟩, fun V H' y => ?_⟩
        obtain ⟨rfl, vr⟩ := q.2 V H' y
        have offB : ∀ {σ' : L2.St} {H : Hp}, ∀ c v, (C.blk C.X).W σ' H c v → Trk H c v := fun c v z => Ct.w_off rfl c v z
        refine ⟨φ, _, h, v, ⟨hr.w Ct.w_on, re.mono Stp.refl Ct.w_on⟩, vr.w Ct.w_on, p.bnd.imp fun ρ2 φ2 h2 H2 s2 p2 σ2 rl2 ag => ⟨wipe_agr ag hw, ?_⟩⟩
        refine tT.mk rl2 (p2.bnd.po.imp fun b φ3 h3 H3 s3 hr3 p3 rl3 => ?_)
        have s23 := s2.trans s3
        cases b with
        | false => exact iteF ⟨φ3, h3, hr3.w offB, re.mono s23 (tw s23), j.mono s23 (tw s23), s23.pre _ _ pd, p3⟩
        | true =>
          refine iteT (tE.mk rl3 ((show PoG (C.blk C.X) φ3 H3 ((f ρ2 h3).bnd _) _ from p3).bnd.po.imp fun y φ4 h4 H4 s4 hr4 p4 Y yr rl4 => ?_))
          have s24 := s23.trans s4
          cases e4 : isFl h4 h1.length with
          | none => rw [e4] at p4; exact p4.elim
          | some acc =>
            rw [e4] at p4
            obtain ⟨cc, p4⟩ := (show PoG (C.blk C.X) φ4 H4 (if acc.length < sizeLine then _ else _) _ from p4).if_
            obtain ⟨a, vs, q, ea, eh, eH, va⟩ := hr4.isFl e4 (V := .ref D) (by simp only [VR]; exact ⟨D, s24.pre _ _ pd, rfl⟩)
            cases q
            have va' := VRs.app va (VRs.cons' yr (show VRs C.Γ φ4 H4 ((C.blk C.X).W σ2 H4) [] [] from rfl))
            have s5 : Stp φ4 φ4 H4 (upd H4 D (.lst (vs ++ [Y]))) := (hr4.write ea eh va' (fun _ _ z => z)).1
            have hr5 := (hr4.write ea eh va' (W' := Trk (upd H4 D (.lst (vs ++ [Y])))) (fun c v z => (offB c v z).mono s5)).2
            have s25 := s24.trans s5
            exact ⟨vs, eH, by rw [va.len]; exact cc, φ4, _, hr5, re.mono s25 (tw s25), j.mono s25 (tw s25), s25.pre _ _ pd, p4.step s5⟩
/-- .. as a value -/
theorem se_lcE {F : Cfg} {elt tg iter : Expr} {ifs : List Expr} {scope : Scope} {own : List (Str × Nat)} {pos : Pos} {i g t f ws} {wf : Nat} (fl : C.flag = true → F.flag = true ∧ F.capd = C.capd) (hc : C.X.calm = true) (nd : C.X.N.Nodup)
    (hi : PI C.X tg iter (tI C i)) (ok : BlkOk C.X.N C.X.env.scope scope own) (hw : ∀ i, i ∈ ws → i ∈ own.map (·.2))
    (hg : ∀ (s : Shared) (H : Hp) (c : Addr) (cl : List (Str × Addr)) (fp : List Addr), PG (C.X.blk s H scope (compEnvC scope cl c C.X.env) fp) tg (tG (C.blk (C.X.blk s H scope (compEnvC scope cl c C.X.env) fp)) ws g))
    (ht : ∀ (s : Shared) (H : Hp) (c : Addr) (cl : List (Str × Addr)) (fp : List Addr), PTs (C.X.blk s H scope (compEnvC scope cl c C.X.env) fp) ifs (tT (C.blk (C.X.blk s H scope (compEnvC scope cl c C.X.env) fp)) t))
    (he : ∀ (s : Shared) (H : Hp) (c : Addr) (cl : List (Str × Addr)) (fp : List Addr), PE (C.X.blk s H scope (compEnvC scope cl c C.X.env) fp) elt (tE (C.blk (C.X.blk s H scope (compEnvC scope cl c C.X.env) fp)) f))
    (hs : ∀ x, foldedSetIterable iter C.X.env x = pure x) :
    PE C.X (.ListComp elt [⟨tg, iter, ifs, 0⟩] scope pos) (tE C fun ρ h => (i ρ h).bnd fun it h => if (!F.flag || it.noClo) = true then
      (compL g t f it (wipeE (if F.flag then killE ρ else ρ) (own.map (·.2))) h.length wf 0 ((if F.flag then killH h else h) ++ [.lst false []])).nox else .err) :=
  (pe_lc hc nd hi ok (fun s H c cl fp => (hg s H c cl fp).imp fun V σ H Q => blkG) (fun s H c cl fp => (ht s H c cl fp).imp fun σ H Q => blkT) (fun s H c cl fp => (he s H c cl fp).imp fun σ H Q => blkE) hs).imp
    fun σ H Q ti => se_lc fl hc nd hi ok hw hg ht he hs ti
end
end EV
set_option linter.all false
set_option maxRecDepth 100000
set_option maxHeartbeats 1000000
/-! Ev10: calls. -/
namespace EV
open PySem PySem.Spec PyProof.Rows L2
section
variable {C : Ct}
theorem se_dct0 {pos : Pos} : PE C.X (.Dict [] [] pos) (tE C fun _ h => .ok (.ref h.length) (h ++ [.dct0])) :=
  pe_dnewK.imp fun σ H Q ⟨φ, ρ, h, rl, po⟩ p n => by
    have s := stp_add (φ := φ) (o := HO.dK []) n
    exact po _ _ s (rl.hr.add n (Ct.wm s) upd_same) _ (ref_add rl.hr.len)
theorem rg_vals {Γ φ H W} {k : Nat} : ∀ (l : List Nat), VRs Γ φ H W (l.map fun (k : Nat) => PV.int (k : Int)) (l.map fun i => V.int (0 + (i : Nat)))
  | [] => rfl
  | a :: l => VRs.cons' (show V.int (0 + (a : Int)) = V.int (a : Int) from by rw [Int.zero_add]) (rg_vals (k := k) l)
theorem se_lrng {a : Expr} {p p2 pos pos2 : Pos} {f} (hc : C.X.calm = true) (hg : Gl C.X "list") (hm : C.X.mg "list" = none) (hg2 : Gl C.X "range") (hm2 : C.X.mg "range" = none) (hs : isStar a = false) (ha : PE C.X a (tE C f)) :
    PE C.X (.Call (.Name "list" p) [.Call (.Name "range" p2) [a] [] pos2] [] pos) (tE C fun ρ h => (f ρ h).bnd fun x h => lrngV x h) := by
  refine (pe_listRg hc hg hm (prg_1 hg2 hm2 ha (starEach_cons hs)) (starEach_cons rfl)).imp fun σ H Q ⟨φ, ρ, h, rl, po⟩ => ?_
  refine tE.mk rl (po.bnd.imp fun x φ1 h1 H1 s1 hr1 p1 V v rl1 => ?_)
  cases x with
  | int n =>
    obtain rfl := vr_int v
    obtain ⟨c, p1⟩ := Po.if_ (show Po C φ1 σ H1 (if 0 ≤ n ∧ n ≤ 1000000 then _ else _) _ from p1)
    refine ⟨n, rfl, .of_le (Int.le_refl _) (by omega) (by decide) c.1, fun q hq => ?_⟩
    refine p1.newL hr1 ?_ hq _ (ref_add hr1.len)
    unfold rgV
    rw [Int.sub_zero]
    exact rg_vals (k := 0) _
  | _ => exact p1.elim
end

/-! ### a def, called where nothing is guarded -/
structure FnE (P : Program) (w : World) (K : PySem.W.Frag) (mg : Str → Option Value) (base : Heap) (k : Nat) (f : Addr) (fd : FuncData) (ps : List Str) (sp : Sp) : Prop where
  len : ∀ vs H Q E, sp vs H Q E → vs.length = ps.length
  run : ∀ (A : Around) (outer : List Env) (s : Shared) (H : Hp) (args : Args) (us : List Value) (vs : List V) (Q : VK) (E : XK), A.guards = some [] → Room k A → Env0 P w K mg base A outer s H → BindsTo s fd args (ps.zip us) → Vals vs us → sp vs H Q E →
    codeAny (model P w) A (.call (.ref f) args) (CR (CX P w) outer P w H s Q E) s
def PoR (Γ : Gm) (φ : List Addr) (H : Hp) (r : Rz PV) (Q : VK) (E : XK) : Prop := match r with
  | .ok v h' => ∀ φ' H', Stp φ φ' H H' → HR Γ φ' H' (Trk H') h' → ∀ V, VR Γ φ' H' (Trk H') v V → Q V H'
  | .ex c v h' => PoX Γ φ H c v h' E
  | .err => False
/-- what a def promises: what the evaluator computes -/
def spF (Γ : Gm) (np : Nat) (call : List PV → Hh → Rz PV) : Sp := fun Vs H Q E => Vs.length = np ∧ ∃ φ h vs, HR Γ φ H (Trk H) h ∧ VRs Γ φ H (Trk H) vs Vs ∧ PoR Γ φ H (call vs h) Q E
section
variable {X : Cx} {k : Nat} {f : Addr} {fd : FuncData} {ps : List Str} {sp : Sp} {E : XK} {x : Str} {p pos : Pos} {e : Expr} {es : List Expr} {t : TA}
theorem run_fnE {pins : List (Addr × Obj)} {σ : L2.St} {H : Hp} {s : Shared} {Q : VK} {us : List Value} {vs : List V} (F : FnE X.prog X.w X.K X.mg X.base k f fd ps sp) (gd : X.A.guards = some []) (hr : Room k X.A) (hb : Binds X.K fd ps []) (hx : Passes (CX X.prog X.w) X E)
    (I : Inv X pins σ H s) (r : Vals vs us) (h : sp vs H Q E) : wpAny (model X.prog X.w) X.A (call (.ref f) us) (EP X pins σ Q) X.xe s := by
  have hl : us.length = ps.length := by rw [← r.length]; exact F.len _ _ _ _ h
  have b := hb s us I.kIn (by rw [List.append_nil]; exact hl)
  rw [List.append_nil] at b
  refine wpAny_call (codeAny_mono (F.run X.A X.stack s H ⟨us, []⟩ us vs Q E gd hr I.env0 b r h) fun r s' hq => ?_)
  cases r with
  | error e => exact hx pins σ H s e s' I hq
  | ok fl =>
    cases fl with
    | ret u => exact I.after hq
    | next => exact False.elim hq
    | brk => exact False.elim hq
    | cont => exact False.elim hq
theorem pe_callE (F : FnE X.prog X.w X.K X.mg X.base k f fd ps sp) (gd : X.A.guards = some []) (hr : Room k X.A) (hg : Gl X x) (hm : X.mg x = some (.ref f)) (hk : PySem.W.keepIn X.K (.ref f) = true) (hb : Binds X.K fd ps []) (hx : Passes (CX X.prog X.w) X E)
    (ha : PA X (e :: es) t) (hdb : (x == ("__debug__" : Str)) = false) (he : starEach (e :: es) X.env = (false, eval e X.env) :: starEach es X.env) (hpl : (backTo pos (starEach es X.env)).any (·.1) = false) :
    PE X (.Call (.Name x p) (e :: es) [] pos) (fun σ H Q => t σ H fun vs H1 => sp vs H1 Q E) := by
  refine ⟨fun pins s σ H Q I h => ?_⟩
  refine wpAny_Call_Name_kw (ld_glob I hg hm ?_ hdb)
  refine PySem.W.callWith_K (h₀ := X.base) I.ok.mod.kin hk (thn (ha.run pos pins s σ H _ I h) fun us s1 ⟨vs, H1, I1, r, q⟩ => ⟨I1.kIn, ?_⟩) he hpl
  exact run_fnE F gd hr hb hx I1 r q
theorem pe_callE0 (F : FnE X.prog X.w X.K X.mg X.base k f fd ps sp) (gd : X.A.guards = some []) (hr : Room k X.A) (hg : Gl X x) (hm : X.mg x = some (.ref f)) (hk : PySem.W.keepIn X.K (.ref f) = true) (hb : Binds X.K fd ps []) (hx : Passes (CX X.prog X.w) X E)
    (hdb : (x == ("__debug__" : Str)) = false) : PE X (.Call (.Name x p) [] [] pos) (fun σ H Q => sp [] H Q E) := by
  refine ⟨fun pins s σ H Q I h => ?_⟩
  refine wpAny_Call_Name_kw (ld_glob I hg hm ?_ hdb)
  exact PySem.W.callWith_K0 I.kIn hk (run_fnE (us := []) F gd hr hb hx I .nil h)
end
theorem star_any {pos : Pos} {env : Env} : ∀ {es : List Expr}, es.all (fun e => !isStar e) = true → (backTo pos (starEach es env)).any (·.1) = false
  | [], _ => rfl
  | e :: r, h => by
    rw [List.all_cons, Bool.and_eq_true] at h
    rw [starEach_cons (by simpa using h.1)]
    show (false || (backTo pos (starEach r env)).any (·.1)) = false
    rw [star_any h.2]; rfl
section
variable {C : Ct}
theorem Po.toR {φ σ H} {r : Rz PV} {Q : VK} (hf : C.flag = false) (p : Po C φ σ H r fun v φ' _ H' => ∀ V, VR C.Γ φ' H' (C.W σ H') v V → Q V H') : PoR C.Γ φ H r Q C.Ex := by
  cases r with
  | ok v h => exact fun φ' H' s hr V vr => p φ' H' s (hr.w Ct.w_on) V (vr.w Ct.w_on)
  | ex c v h => exact p
  | err => exact p
/-- what is known of a def that is called -/
structure FnC (C : Ct) (f : Addr) (call : List PV → Hh → Rz PV) (x : Str) : Prop where
  fn : ∃ k fd ps, FnE C.X.prog C.X.w C.X.K C.X.mg C.X.base k f fd ps (spF C.Γ ps.length call) ∧ (∀ vs h, vs.length ≠ ps.length → call vs h = .err) ∧ Room k C.X.A ∧ Binds C.X.K fd ps []
  mg : C.X.mg x = some (.ref f)
  kp : PySem.W.keepIn C.X.K (.ref f) = true
theorem se_call {f : Addr} {call : List PV → Hh → Rz PV} {x : Str} {p pos : Pos} {e : Expr} {es : List Expr} {g} (hf : C.flag = false) (F : FnC C f call x) (gd : C.X.A.guards = some []) (hg : Gl C.X x) (hx : Passes (CX C.X.prog C.X.w) C.X C.Ex)
    (hs : (e :: es).all (fun e => !isStar e) = true) (ha : PA C.X (e :: es) (tA C g)) (hdb : (x == ("__debug__" : Str)) = false) :
    PE C.X (.Call (.Name x p) (e :: es) [] pos) (tE C fun ρ h => (g ρ h).bnd fun vs h => call vs h) := by
  obtain ⟨k, fd, ps, F1, hlen, hr, hb⟩ := F.fn
  rw [List.all_cons, Bool.and_eq_true] at hs
  refine (pe_callE F1 gd hr hg F.mg F.kp hb hx ha hdb (starEach_cons (by simpa using hs.1)) (star_any hs.2)).imp fun σ H Q ⟨φ, ρ, h, rl, po⟩ => ?_
  refine tA.mk rl (po.bnd.imp fun xs φ1 h1 H1 s1 hr1 p1 Vs vs rl1 => ?_)
  refine ⟨?_, φ1, h1, xs, hr1.w (Ct.w_off hf), vs.w (Ct.w_off hf), p1.toR hf⟩
  rw [vs.len]
  refine Decidable.byContradiction fun hn => ?_
  rw [hlen xs h1 hn] at p1
  exact p1
theorem se_call0 {f : Addr} {call : List PV → Hh → Rz PV} {x : Str} {p pos : Pos} (hf : C.flag = false) (F : FnC C f call x) (gd : C.X.A.guards = some []) (hg : Gl C.X x) (hx : Passes (CX C.X.prog C.X.w) C.X C.Ex) (hdb : (x == ("__debug__" : Str)) = false) :
    PE C.X (.Call (.Name x p) [] [] pos) (tE C fun ρ h => (Rz.ok [] h).bnd fun vs h => call vs h) := by
  obtain ⟨k, fd, ps, F1, hlen, hr, hb⟩ := F.fn
  refine (pe_callE0 F1 gd hr hg F.mg F.kp hb hx hdb).imp fun σ H Q ⟨φ, ρ, h, rl, po⟩ => ?_
  have po : Po C φ σ H (call [] h) _ := po
  refine ⟨?_, φ, h, [], rl.hr.w (Ct.w_off hf), rfl, po.toR hf⟩
  refine Decidable.byContradiction fun hn => ?_
  rw [hlen [] h hn] at po
  exact po
end

/-! ### a def's body keeps its promise -/
theorem fnE_of {P : Program} {w : World} {K : PySem.W.Frag} {mg : Str → Option Value} {base : Heap} {k : Nat} {f : Addr} {name qual : Str} {params : Arguments} {body : List Stmt} {scope : Scope} {dV kV doc pm cdv ct oc : Value} {an od : Option Addr}
    {osl : Array (Option Value)} {N ps : List Str} {sp : Sp} (lk : K.lookup f = some ⟨oc, od, .func (PySem.W.fnOf name qual params body scope dV kV doc pm an cdv ct), osl⟩) (hcd : PySem.W.codeIn K cdv qual = true) (S : FnScope N ps scope)
    (len : ∀ vs H Q E, sp vs H Q E → vs.length = ps.length)
    (hbody : ∀ (A : Around) (outer : List Env) (s : Shared) (H : Hp) (vs : List V) (Q : VK) (E : XK), A.guards = some [] → Room k (A.deeper (envOfC qual scope s.heap.objs.size f cdv)) → sp vs H Q E →
      ∃ t, PSs (cxOf (CX P w) P w K mg base N qual scope f cdv A outer s H E) body t ∧ t { nx := fun _ H' => Q .non H', rt := Q } (start N vs) H) :
    FnE P w K mg base (k + 1) f (PySem.W.fnOf name qual params body scope dV kV doc pm an cdv ct) ps sp := by
  refine ⟨len, fun A outer s H args us vs Q E gd hr e0 hb r hsp => ?_⟩
  have hl := len _ _ _ _ hsp
  have KX : K.In s.heap := e0.mod.kin.keeps fun b o e => (e0.bs b o e).1
  have lim : s.heap.NoLimit := e0.mod.nolimit.keeps fun b o e => (e0.bs b o e).1
  have hkind : ∀ y ∈ ps.zip us, scope.names.lookup y.1 = some .local ∨ (scope.names.lookup y.1 = some .cell ∧ ((cellsFrom (s.heap.objs.size + 1) scope.names []).lookup y.1).isSome = true) := fun ⟨n, v⟩ hy => by
    rcases S.par n (List.of_mem_zip hy).1 with q | q
    · exact .inl q
    · exact .inr ⟨q, PySem.W.cellsFrom_some _ _ _ (.inl q)⟩
  refine codeAny_call_function hr.depth (KX _ _ lk) rfl S.co S.gen rfl (PySem.W.codeRec_of KX hcd) (hb _ _ _ _ ?_)
  refine wpAny_newFunctionEnv_cells S.kind hkind fun env he s1 x => ?_
  subst he
  refine ⟨lim.keeps x.toInCall.keep, codeAny_func ?_⟩
  obtain ⟨t, ht, hq⟩ := hbody A outer s H vs Q E gd (hr.deeper _) hsp
  have I : Inv (cxOf (CX P w) P w K mg base N qual scope f cdv A outer s H E) [] (start N vs) H s1 := inv_start S hr.hd e0 hl r x
  refine wpAny_mono (ht.run [] s1 (start N vs) H _ I hq) (fun fl s' hs => ?_) fun e s' hs => hs
  have fin : ∀ {σ' : L2.St} {H' : Hp} {v : V} {u : Value}, Inv (cxOf (CX P w) P w K mg base N qual scope f cdv A outer s H E) [] σ' H' s' → RelV v u → Q v H' → CE outer P w H s Q u s' :=
    fun {σ' H' v u} J rv q => ⟨v, H', J.os, J.bare, J.base, J.hok, rv, q⟩
  cases fl with
  | ret u =>
    obtain ⟨v, σ', H', J, rv, q⟩ := hs
    exact fin J rv q
  | next =>
    obtain ⟨σ', H', J, q⟩ := hs
    exact fin (v := V.non) (u := Value.none) J rfl q
  | brk =>
    obtain ⟨_, _, _, q⟩ := hs
    exact False.elim q
  | cont =>
    obtain ⟨_, _, _, q⟩ := hs
    exact False.elim q

/-! ### a call over a heap of its own -/
theorem lcl_ok {Γ φ H h args Vs run Q E} (hr : HR Γ φ H (Trk H) h) (v : VRs Γ φ H (Trk H) args Vs) (p : PoR Γ φ H (lcl h args run) Q E) :
    ∃ φ0 h0 as, HR Γ φ0 H (Trk H) h0 ∧ VRs Γ φ0 H (Trk H) as Vs ∧ PoR Γ φ0 H (run as h0) Q E := by
  unfold lcl at p
  cases e : grab h args with
  | none =>
    rw [e] at p
    exact ⟨φ, h, args, hr, v, p⟩
  | some g =>
    obtain ⟨m, as, h0⟩ := g
    rw [e] at p
    dsimp only at p
    obtain ⟨φ0, G, hr0, v0⟩ := grab_ok (W' := Trk H) hr v e
    refine ⟨φ0, h0, as, hr0, v0, ?_⟩
    have tw : ∀ {φ φ' : List Addr} {H H' : Hp} (s : Stp φ φ' H H'), ∀ c v, Trk H c v → Trk H' c v := fun s c v z => z.mono s
    cases er : run as h0 with
    | ok x h1 =>
      rw [er] at p
      intro φ1 H1 s hr1 V vr
      have hr0' : HR Γ φ0 H (Trk H1) h0 := (grab_ok (W' := Trk H1) hr v e).elim fun φ0' z => by
        exact hr0.w fun c v z => z.mono s
      obtain ⟨φ', s', hr', k⟩ := back_ok (W' := Trk H1) hr G hr0' s hr1 (fun _ _ z => z) (tw s)
      exact p φ' H1 s' hr' V (k x V vr)
    | ex c x h1 =>
      rw [er] at p
      intro φ1 H1 d y s hr1 ed vr
      obtain ⟨φ', s', hr', k⟩ := back_ok (W' := Trk H1) hr G (hr0.w (tw s)) s hr1 (fun _ _ z => z) (tw s)
      exact p φ' H1 d y s' hr' ed (k x y vr)
    | err =>
      rw [er] at p
      exact p.elim
end EV
set_option linter.all false
set_option maxRecDepth 100000
set_option maxHeartbeats 1000000
/-! Ev11: the program's errors: made, told apart, read. -/
namespace EV
open PySem PySem.Spec PySem.Calls PyProof.Rows

/-- the body of the __init__ -/
def initBody : List Stmt :=
  [.Expr (.Call (.Attribute (.Call (.Name "super" ⟨5, 8, 5, 13⟩) [] [] ⟨5, 8, 5, 15⟩) "__init__" ⟨5, 8, 5, 24⟩) [.Name "value" ⟨5, 25, 5, 30⟩] [] ⟨5, 8, 5, 31⟩) ⟨5, 8, 5, 31⟩,
    .Assign [.Attribute (.Name "self" ⟨6, 8, 6, 12⟩) "value" ⟨6, 8, 6, 18⟩] (.Name "value" ⟨6, 21, 6, 26⟩) ⟨6, 8, 6, 26⟩]
def initScope : Scope := { kind := .function, names := [("self", .local), ("value", .local), ("__class__", .free), ("super", .globalImplicit)], isGenerator := false, isCoroutine := false, more := [] }
def initArgs : Arguments := { posonlyargs := [], args := [{ arg := "self", annotation := none, pos := ⟨4, 17, 4, 21⟩ }, { arg := "value", annotation := none, pos := ⟨4, 23, 4, 28⟩ }], vararg := none, kwonlyargs := [], kw_defaults := [], kwarg := none, defaults := [] }
/-- the __init__ of the errors, in the written part -/
structure InitF (prog : Program) (K : PySem.W.Frag) (mg : Str → Option Value) (D fI cc : Addr) : Prop where
  fn : ∃ oc od osl qual doc pm an ct cda, K.lookup fI = some ⟨oc, od, .func (PySem.W.ksFn "__init__" qual initArgs initBody initScope .none .none doc pm an (.ref cda) ct cc), osl⟩ ∧
    PySem.W.codeIn K (.ref cda) qual = true ∧ ∃ ccl cdd vs ccs file tf, K.lookup cda = some ⟨ccl, cdd, .fields vs, ccs⟩ ∧ vs[2]? = some (.str file tf) ∧ ((prog.main.file : Str) == file) = true
  cell : ∃ cl cld csl, K.lookup cc = some ⟨cl, cld, .cell (some (.ref D)), csl⟩
  cls : ∃ cdD, PySem.W.clsIn K D = some cdD
  top : (prog.main.scope.names.lookup ("super" : Str)).isSome = false
  sup : mg "super" = none
  op : PySem.W.nsIn K cStatics "thirdparty.any" = some none
/-- a class of the errors -/
structure ClsF (K : PySem.W.Frag) (D C : Addr) : Prop where
  ox : L2.OexC K C
  sub : PySem.W.mroIn K C (.ref D) = some true
  sup : PySem.W.ks_superIn K C D "__init__" = some (some (.builtin "ValueError.__init__"))
  ve : PySem.W.subIn K (.ref C) (.type "ValueError") = some true
  val : PySem.W.findIn K (.ref C) "value" = some none

section
variable {prog : Program} {w : World} {A : Around} {E : Value → Shared → Prop} {h : Heap} {g : Array GenState} {d : Drawn} {t : Nat} {os : OsState}
variable {nm q : Str} {C N : Addr} {bs bm : List Value} {hdct : Bool} {sn : List Str} {sub : List Value} {ab : Bool} {col : Option Bool} {dd : Option Addr} {k0 k1 k2 k3 k5 : Option Value}
/-- ValueError.__init__ bound to x, called -/
theorem mw_call {u x t0 : Addr} {rest : List Value} {Q : Value → Shared → Prop} (hC : h.get? C = some (excClassObj nm q C N bs bm hdct sn sub ab col dd k0 k1 k2 k3 k5 "ValueError.__new__")) (hx : h.get? x = some (PySem.W.excObj C t0 none .none)) (hu : h.get? u = some (PySem.W.kxs_mw "ValueError.__init__" x)) (hz : rest.length ≤ sizeLine)
    (hq : ∀ h', (∀ b o, b ≠ x → h.get? b = some o → h'.get? b = some o) → h'.get? x = some (PySem.W.excObj C h.objs.size none .none) → h'.get? h.objs.size = some (PySem.W.excTup rest) → Q .none ⟨h', g, d, t, os⟩) :
    wpAny (model prog w) A (call (.ref u) rest) Q E ⟨h, g, d, t, os⟩ := by
  refine wpAny_call (codeAny_of_tree ?_)
  show wpAny _ _ (callAny (.ref u) ⟨rest, []⟩) _ _ _
  simp only [callAny]
  refine wpAny_bind (wpAny_load hu ?_)
  simp only [PySem.W.kxs_mw, show (Value.type "method-wrapper" == Value.type "method" || Value.type "method-wrapper" == Value.type "builtin_function_or_method" || Value.type "method-wrapper" == Value.type "method-wrapper") = true by decide, if_true]
  refine PySem.W.KFB.if_so (by decide) ?_
  refine wpAny_bind (PySem.W.check_bound_init PySem.F.excBase_ValueError.toExcCallFacts hC hx rfl ?_)
  refine wpAny_bind (wpAny_pure (wpAny_pure ?_))
  refine ⟨plainId_quiet PySem.F.excBase_ValueError.init.plain _, codeAny_builtin PySem.F.excBase_ValueError.initEntry ?_⟩
  exact PySem.W.exc_init_tree (cls := .ref C) (t0 := t0) (dv := none) (c2 := .none) (c3 := .none) (b4 := .bool false) hx hz hq
end
section
variable {prog : Program} {w : World} {A : Around} {R : Result → Shared → Prop} {h : Heap} {g : Array GenState} {d : Drawn} {t : Nat} {os : OsState} {K : PySem.W.Frag} {mg : Str → Option Value} {D fI cc C x t0 : Addr} {v : Value}
theorem init_run (F : InitF prog K mg D fI cc) (T : ClsF K D C) (X : K.In h) (hg : h.Ns mainGlobals mg) (hb : ∃ mb, h.Ns builtinsNs mb ∧ ∀ x : Str, x ≠ "__name__" → mb x = bootBuiltins x) (lim : h.NoLimit) (room : A.depth < recursionLimit)
    (hx : h.get? x = some (PySem.W.excObj C t0 none .none)) (nK : K.lookup x = none)
    (hq : ∀ h' t' dx t1, (∀ b o, b ≠ x → h.get? b = some o → h'.get? b = some o) → h.get? t1 = none → h.get? dx = none → dx ≠ t1 → t1 ≠ x → dx ≠ x → h'.get? x = some (PySem.W.excObj C t1 (some dx) .none) → h'.get? t1 = some (PySem.W.excTup [v]) →
      h'.Ns1 dx (fun y => if y = "value" then some v else none) → R (.ok (.ret .none)) ⟨h', g, d, t', os⟩) :
    codeAny (model prog w) A (.call (.ref fI) ⟨[.ref x, v], []⟩) R ⟨h, g, d, t, os⟩ := by
  obtain ⟨oc, od, osl, qual, doc, pm, an, ct, cda, lk, hcd, ccl, cdd, vs, ccs, file, tf, lkc, hvs, hfile⟩ := F.fn
  obtain ⟨cl, cld, csl, lcell⟩ := F.cell
  obtain ⟨cdD, hD⟩ := F.cls
  obtain ⟨mb, hmb, hmb2⟩ := hb
  refine ks_codeAny_call_defAt (fd := PySem.W.ksFn "__init__" qual initArgs initBody initScope .none .none doc pm an (.ref cda) ct cc) (body := initBody)
    (binds := [("self", .ref x), ("value", v)]) room (X _ _ lk) rfl lim (PySem.W.codeRec_of X hcd) rfl (BindsTo.of_eq rfl) (show ∀ x ∈ initScope.names, x.2 ≠ .cell by decide) (by intro y hy; simp at hy; rcases hy with rfl | rfl <;> rfl) (fun h0 hns hk => ?_)
  generalize hL : h.objs.size = L at hns
  have X0 : K.In h0 := X.keeps hk
  refine ks_wpAt_execs_cons (ks_wpAt_Expr_any ?_)
  refine ks_wpAt_MethodCall ?_
  refine ks_wpAt_super_base rfl rfl rfl rfl (X0 _ _ lk) rfl rfl rfl (X0 _ _ lkc) rfl hvs hfile F.top ?_
  refine PySem.W.ks_loadName_global rfl rfl (loadGlobal_builtin (hg.keeps hk) F.sup (hmb.keeps hk) ((hmb2 _ (by decide)).trans (by first | rfl | kernel_rfl)) ⟨rfl, ?_⟩)
  refine wpAny_loadName_free rfl rfl rfl ⟨_, X0 _ _ lcell, rfl⟩ ?_
  obtain ⟨oD, hD1, hD2⟩ : ∃ oD, h0.get? D = some oD ∧ oD.data = .cls cdD := by
    unfold PySem.W.clsIn at hD
    split at hD
    · rename_i c d cd' sl ho
      cases hD
      exact ⟨_, X0 _ _ ho, rfl⟩
    · cases hD
  have hns' : h0.Ns L (fun y => [(("value" : Str), v), (("self" : Str), Value.ref x)].lookup y) := hns
  have hx0 := hk _ _ hx
  refine wpAny_loadName_local rfl rfl hns' rfl ?_
  refine ks_wpAny_isType_cls hD1 hD2 ⟨rfl, ?_⟩
  refine ks_wpAny_call_super hD1 hD2 hx0 rfl (fun c e => by cases e) (PySem.W.looks_mroIn X0 T.sub) fun h1 e1 k1 => ?_
  generalize hso : h0.objs.size = so at e1
  have X1 : K.In h1 := X0.keeps k1
  have hx1 := k1 _ _ hx0
  obtain ⟨nm, q, N, bs, bm, sn, sub, ab, col, dd, c0, c1, c2, c3, c5, hC, hbm⟩ := T.ox.cls
  have hcl : PySem.W.clsIn K C = some { name := nm, bases := bs, mro := .ref C :: bm, ns := N, qualname := q, hasDict := true, slotNames := sn, subclasses := sub, abstract := ab, collection := col, hasDel := false } := by unfold PySem.W.clsIn; rw [hC] <;> rfl
  have hsup := T.sup
  unfold PySem.W.ks_superIn at hsup
  rw [hcl] at hsup
  have I1 : PySem.W.InstAt h1 x (PySem.W.excObj C t0 none .none) C none := ⟨hx1, rfl, rfl, trivial⟩
  have hxC : x ≠ C := PySem.W.ks_ne X1 I1 hcl
  refine PySem.W.kxs_getMethod PySem.W.kxs_ValueError e1 (PySem.W.looks_opaque X1 F.op) ((PySem.W.looks_clsIn X1 hcl).andThen .now) rfl X1 hsup (I1.type.andThen (PySem.W.looks_subIn X1 T.ve)) hxC rfl ?_
  have lt : ∀ {b : Addr} {o : Obj}, h1.get? b = some o → (h1.push (PySem.W.kxs_mw "ValueError.__init__" x)).get? b = some o := fun e => Heap.get?_push_of_some _ e
  generalize hu : h1.objs.size = u
  have e2 : (h1.push (PySem.W.kxs_mw "ValueError.__init__" x)).get? u = some (PySem.W.kxs_mw "ValueError.__init__" x) := by rw [← hu]; exact Heap.get?_push_at rfl rfl
  have ns2 : (h1.push (PySem.W.kxs_mw "ValueError.__init__" x)).Ns L (fun y => [(("value" : Str), v), (("self" : Str), Value.ref x)].lookup y) := hns'.keeps fun b o e => lt (k1 b o e)
  refine PySem.W.kxs_callWith (i := "ValueError.__init__") (x := x) rfl (evalArgs_plain ?_)
  refine spliced_cons (wpAny_Name (wpAny_loadName_local rfl rfl ns2 rfl (spliced_nil ⟨e2, ?_⟩)))
  -- the call of ValueError.__init__ bound to it
  have hC2 := lt (X1 _ _ hC)
  have hx2 := lt hx1
  refine mw_call hC2 hx2 e2 (show [v].length ≤ sizeLine from by rw [sizeLine_eq]; simp) fun h3 k3 e3 e4 => ?_
  generalize hh2 : h1.push (PySem.W.kxs_mw "ValueError.__init__" x) = h2 at k3 e3 e4 ns2 hC2 hx2 lt
  have hxL : L ≠ x := by
    intro z
    have := Heap.lt_size hx
    rw [hL, z] at this
    exact absurd this (Nat.lt_irrefl _)
  have ns3 : h3.Ns L (fun y => [(("value" : Str), v), (("self" : Str), Value.ref x)].lookup y) := by
    obtain ⟨oL, es, ep, hl, r⟩ := ns2
    exact ⟨oL, es, ep, k3 _ _ hxL hl, r⟩
  have k23 : ∀ b o, b ≠ x → h.get? b = some o → h3.get? b = some o := fun b o hb e => k3 b o hb (lt (k1 b o (hk b o e)))
  have X3 : K.In h3 := fun b o e => k23 b o (fun z => by
    rw [z, nK] at e
    cases e) (X b o e)
  refine ks_wpAt_execs_cons (ks_wpAt_Assign_Attr (wpAt_of_wpAny (wpAny_Name (wpAny_loadName_local rfl rfl ns3 rfl (wpAny_Name (wpAny_loadName_local rfl rfl ns3 rfl ?_))))))
  refine PySem.W.set_plain X3 (ox := PySem.W.excObj C h2.objs.size none .none) (od := none) ⟨e3, rfl, rfl, trivial⟩ T.ox.sa ?_
  refine PySem.HandSPX.exc_osa X3 e3 hcl (show PySem.HandSPX.refsVE (.ref C :: bm) = true from hbm) rfl T.val (fun h4 t4 dx k4 dn dne hx4 hn4 => ?_)
  have n1 : h.get? h2.objs.size = none := by
    cases z : h.get? h2.objs.size with
    | none => rfl
    | some o => exact absurd (Heap.lt_size (lt (k1 _ _ (hk _ _ z)))) (Nat.lt_irrefl _)
  have n2 : h.get? dx = none := by
    cases z : h.get? dx with
    | none => rfl
    | some o => exact absurd (Heap.lt_size (k23 _ _ dne z)) (Nat.not_lt.mpr dn)
  have n3 : h2.objs.size ≠ x := fun z => by
    rw [z, hx] at n1
    cases n1
  exact wpAt_of_wpAny (wpAny_execs_nil (hq h4 t4 dx h2.objs.size (fun b o hb e => k4 b o hb (k23 b o hb e)) n1 n2 (fun z => by
    have := Heap.lt_size e4
    rw [← z] at this
    exact absurd this (Nat.not_lt.mpr dn)) n3 dne hx4 (k4 _ _ n3 e4) hn4))
end

open L2
section
variable {X : Cx} {pins : List (Addr × Obj)} {σ : L2.St} {H H' : Hp} {s : Shared} {h' : Heap}
/-- new objects laid, whatever is tracked of them -/
theorem inv_new {t' : Nat} (I : Inv X pins σ H s) (k : ∀ b o, s.heap.get? b = some o → h'.get? b = some o) (old : ∀ b o, H b = some o → H' b = some o) (same : ∀ b o, s.heap.get? b = some o → H b = none → H' b = none)
    (new : ∀ b o, H' b = some o → H b = some o ∨ ObjOk X.prog X.w H' h' b o) : Inv X pins σ H' { s with heap := h', toks := t' } := by
  refine I.un ⟨fun b o e _ _ _ => k b o e, fun b o e _ _ _ => ⟨o.slots, k b o e⟩, fun b o e n _ => same b o e n, fun b o e _ => ⟨o, k b o e⟩, fun b xs e => old b _ e, fun b o u e => old b _ e, fun b ps e => ⟨#[], by rw [old b _ e]; simp⟩⟩ fun b o e => ?_
  rcases new b o e with q | q
  · exact (I.hok b o q).stay (fun c u _ z => k c u z) (fun c hc => old c _ hc) fun c xs hc => old c _ hc
  · exact q
/-- C(v) of an error's class -/
theorem make_run {D C fI cc : Addr} {k : Nat} {u : Value} {Q : Value → Shared → Prop} (F : InitF X.prog X.K X.mg D fI cc) (T : ClsF X.K D C) (iC : PySem.W.findIn X.K (.ref C) "__init__" = some (some (.ref fI))) (tI : PySem.W.typeIn X.K (.ref fI) = some (.type "function")) (hr : Room (k + 1) X.A)
    (I : Inv X pins σ H s)
    (hq : ∀ h' t' a dx t1, (∀ b o, s.heap.get? b = some o → h'.get? b = some o) → s.heap.get? a = none → s.heap.get? t1 = none → s.heap.get? dx = none → dx ≠ t1 → t1 ≠ a → dx ≠ a → h'.get? a = some (PySem.W.excObj C t1 (some dx) .none) → h'.get? t1 = some (PySem.W.excTup [u]) →
      h'.Ns1 dx (fun y => if y = "value" then some u else none) → Q (.ref a) { s with heap := h', toks := t' }) :
    wpAny (model X.prog X.w) X.A (call (.ref C) [u]) Q X.xe s := by
  obtain ⟨nm, q, N, bs, bm, sn, sub, ab, col, dd, k0, k1, k2, k3, k5, hC, hbm⟩ := T.ox.cls
  have hin := I.kIn
  have hgl := I.mod.glob.keeps I.bk
  obtain ⟨mb, hb1, hb2⟩ := I.mod.blt
  have hbl := hb1.keeps I.bk
  have hlm := I.nolimit
  have hnK : ∀ a, s.heap.objs.size ≤ a → X.K.lookup a = none := fun a ha => by
    cases e : X.K.lookup a with
    | none => rfl
    | some o => exact absurd (Heap.lt_size (hin _ _ e)) (Nat.not_lt.mpr ha)
  obtain ⟨hp, g, dr, tk, os⟩ := s
  have kk : ∀ b o, hp.get? b = some o → ((hp.push (PySem.W.kdv_tup [u])).push (PySem.HandSPX.excO C hp.objs.size)).get? b = some o := fun b o e => Heap.get?_push_of_some _ (Heap.get?_push_of_some _ e)
  have hget : ((hp.push (PySem.W.kdv_tup [u])).push (PySem.HandSPX.excO C hp.objs.size)).get? (hp.objs.size + 1) = some (PySem.HandSPX.excO C hp.objs.size) := by heap_get
  refine wpAny_call (PySem.HandSPX.call_own PySem.F.excBase_ValueError (fun Y => PySem.HandSPX.refsVE_contains Y bm hbm) (hin _ _ hC) (PySem.W.looks_findIn hin iC) (fun self => PySem.W.bind_fn hin self tI) (show [u].length ≤ sizeLine from by rw [sizeLine_eq]; simp) ?_)
  have hm := hr.make C [u] []
  refine init_run F T (hin.keeps kk) (hgl.keeps kk) ⟨mb, hbl.keeps kk, hb2⟩ (hlm.keeps kk) (by have := hm.dp; omega) hget (hnK _ (Nat.le_succ _)) fun h' t' dx t1 k' n1 n2 d1 d2 d3 e1 e2 e3 => ?_
  have none_ : ∀ b, ((hp.push (PySem.W.kdv_tup [u])).push (PySem.HandSPX.excO C hp.objs.size)).get? b = none → hp.get? b = none := fun b n => by
    cases z : hp.get? b with
    | none => rfl
    | some o => rw [kk b o z] at n; cases n
  have na : hp.get? (hp.objs.size + 1) = none := Heap.get?_none_of_le (Nat.le_succ _)
  refine ⟨rfl, ?_⟩
  exact hq h' t' (hp.objs.size + 1) dx t1 (fun b o e => k' b o (fun z => by rw [z, na] at e; cases e) (kk b o e)) na (none_ _ n1) (none_ _ n2) d1 d2 d3 e1 e2 e3
end

section
variable {C : Ct}
/-- an error is made -/
theorem se_exn {F0 : Cfg} {c : Nat} {D fI cc : Addr} {k : Nat} {x : Str} {e : Expr} {p pos : Pos} {f} (F : InitF C.X.prog C.X.K C.X.mg D fI cc) (T : ClsF C.X.K D (C.Γ.clsA c)) (iC : PySem.W.findIn C.X.K (.ref (C.Γ.clsA c)) "__init__" = some (some (.ref fI))) (tI : PySem.W.typeIn C.X.K (.ref fI) = some (.type "function")) (hr : Room (k + 1) C.X.A)
    (hg : Gl C.X x) (hm : C.X.mg x = some (.ref (C.Γ.clsA c))) (hdb : (x == ("__debug__" : Str)) = false) (hs : isStar e = false) (he : PE C.X e (tE C f)) :
    PE C.X (.Call (.Name x p) [e] [] pos) (tE C fun ρ h => (f ρ h).bnd fun v h => .ok (.exc true c v) h) := by
  refine ⟨fun pins s σ H Q I ⟨φ, ρ, h, rl, po⟩ => ?_⟩
  refine wpAny_Call_Name_kw (ld_glob I hg hm ?_ hdb)
  have hA := (pa_one hs he).run pos pins s σ H (fun vs H1 => ∃ V, vs = [V] ∧ ∃ v φ' h', Po C φ' σ H1 (.ok (.exc true c v) h') (fun v φ' _ H' => ∀ V, VR C.Γ φ' H' (C.W σ H') v V → Q V H') ∧ HR C.Γ φ' H1 (C.W σ H1) h' ∧ VR C.Γ φ' H1 (C.W σ H1) v V) I
    (tE.mk rl (po.bnd.imp fun v φ1 h1 H1 s1 hr1 p1 V vr rl1 => ⟨V, rfl, v, φ1, h1, p1, hr1, vr⟩))
  refine PySem.W.callWith_K (h₀ := C.X.base) I.ok.mod.kin T.ox.kC (thn hA fun us s1 ⟨vs, H1, I1, r1, V, ev, v, φ1, h1, p1, hr1, vr⟩ => ⟨I1.kIn, ?_⟩) (starEach_cons hs) rfl
  subst ev
  obtain ⟨u, rfl, ru⟩ := Vals.one r1
  refine make_run F T iC tI hr I1 fun h' t' a dx t1 k' na n1 n2 d1 d2 d3 e1 e2 e3 => ?_
  have Ha := I1.hok.gone na
  have Ht := I1.hok.gone n1
  have Hd := I1.hok.gone n2
  generalize hH : upd (upd (upd H1 t1 (.tup [V])) dx (.xd [("value", V)])) a (ExA (.ref (C.Γ.clsA c)) dx t1 a) = H2
  have ga : H2 a = some (ExA (.ref (C.Γ.clsA c)) dx t1 a) := by rw [← hH, upd_same]
  have gd : H2 dx = some (.xd [("value", V)]) := by rw [← hH, upd_ne d3, upd_same]
  have gt : H2 t1 = some (.tup [V]) := by rw [← hH, upd_ne d2, upd_ne (Ne.symm d1), upd_same]
  have go : ∀ b, b ≠ a → b ≠ dx → b ≠ t1 → H2 b = H1 b := fun b q1 q2 q3 => by rw [← hH, upd_ne q1, upd_ne q2, upd_ne q3]
  have ne : ∀ {b o}, H1 b = some o → b ≠ a ∧ b ≠ dx ∧ b ≠ t1 := fun {b o} e => ⟨ne_of_none e Ha, ne_of_none e Hd, ne_of_none e Ht⟩
  have I2 : Inv C.X pins σ H2 { s1 with heap := h', toks := t' } := inv_new I1 k' (fun b o e => by obtain ⟨q1, q2, q3⟩ := ne e; rw [go b q1 q2 q3]; exact e)
    (fun b o e n => by
      have q : ∀ {z}, s1.heap.get? z = none → b ≠ z := fun {z} nz y => by rw [y, nz] at e; cases e
      rw [go b (q na) (q n2) (q n1)]
      exact n)
    (fun b o e => by
      by_cases q1 : b = a
      · subst q1
        rw [ga] at e; cases e
        exact .inr ⟨e1, ⟨_, e1⟩, fun h1 h2 z k => k _ z⟩
      · by_cases q2 : b = dx
        · subst q2
          rw [gd] at e; cases e
          refine .inr ⟨_, e3, fun g => ?_⟩
          exact relO_put (fs := []) ru (mA := fun _ => none) (fun g => True.intro) g
        · by_cases q3 : b = t1
          · subst q3
            rw [gt] at e; cases e
            exact .inr ⟨by rw [sizeLine_eq]; simp, [u], .cons ru .nil, _, e2, rfl, 0, rfl⟩
          · rw [go b q1 q2 q3] at e
            exact .inl e)
  have st : Stp φ1 φ1 H1 H2 := ⟨fun _ _ z => z, fun _ z => .inl z, fun b o e _ _ => by obtain ⟨q1, q2, q3⟩ := ne e; rw [go b q1 q2 q3]; exact e, fun b ps e => ⟨ps, by obtain ⟨q1, q2, q3⟩ := ne e; rw [go b q1 q2 q3]; exact e⟩⟩
  have hr2 : HR C.Γ φ1 H2 (C.W σ H2) h1 := ⟨hr1.len, fun n o b e1 e2 => (hr1.at_ n o b e1 e2).mono st (Ct.wm st) fun vs e => by obtain ⟨q1, q2, q3⟩ := ne e; rw [go b q1 q2 q3]; exact e, hr1.inj, hr1.tabs.ext fun b o e => by obtain ⟨q1, q2, q3⟩ := ne e; rw [go b q1 q2 q3]; exact e⟩
  refine ⟨.ref a, H2, I2, rfl, p1 φ1 H2 st hr2 (.ref a) ?_⟩
  simp only [VR]
  exact ⟨a, dx, V, rfl, ⟨t1, ga, SqT.of gt⟩, gd, VR.mono st (Ct.wm st) _ _ vr⟩
end
end EV
set_option linter.all false
set_option maxRecDepth 100000
set_option maxHeartbeats 1000000
/-! Ev12: isinstance, an error's value. -/
namespace EV
open PySem PySem.Spec PySem.Calls PyProof.Rows L2

def Ty.name : Ty → String
  | .int => "int"
  | .bool => "bool"
  | .str => "str"
  | .tuple => "tuple"
  | .list => "list"
  | .verr => "ValueError"
def Ty.sname : Ty → Str
  | .int => "int"
  | .bool => "bool"
  | .str => "str"
  | .tuple => "tuple"
  | .list => "list"
  | .verr => "ValueError"
/-- what isinstance asks of an error's class -/
structure ClsI (K : PySem.W.Frag) (C : Addr) : Prop where
  ic : ExcC K C
  ve : PySem.W.kitOne K (.ref C) (.type "ValueError") = some true
  val : PySem.W.findIn K (.ref C) "value" = some none
section
variable {X : Cx} {Γ : Gm} {φ : List Addr} {H : Hp} {W : Cw} {s : Shared} {pins : List (Addr × Obj)} {σ : L2.St}
/-- an error as it lies -/
theorem exc_inst (I : Inv X pins σ H s) {p : Bool} {c : Nat} {v : PV} {V} (h : VR Γ φ H W (.exc p c v) V) :
    ∃ a d y oe od, V = .ref a ∧ PySem.W.InstAt s.heap a oe (Γ.clsA c) (some od) ∧ H d = some (.xd [("value", y)]) ∧ VR Γ φ H W v y ∧ s.heap.get? d = some od ∧ ∃ vs, oe.data = .fields vs := by
  simp only [VR] at h
  obtain ⟨a, d, y, rfl, h1, h2, h3⟩ := h
  have hx : ObjOk X.prog X.w H s.heap d (.xd [("value", y)]) := I.hok d _ h2
  obtain ⟨mA, hns, hr⟩ := hx
  obtain ⟨od, ho, hl⟩ := lookIn_ns hns
  have key : ∃ (oe : Obj) (vs : Array Value), s.heap.get? a = some oe ∧ Zc (.ref (Γ.clsA c)) (some d) oe ∧ oe.data = .fields vs := by
    cases p with
    | false =>
      have z : ObjOk X.prog X.w H s.heap a (ExD (.ref (Γ.clsA c)) d a) := I.hok a _ h1
      exact z.1
    | true =>
      obtain ⟨t0, h4, _⟩ := h1
      have z : ObjOk X.prog X.w H s.heap a (ExA (.ref (Γ.clsA c)) d t0 a) := I.hok a _ h4
      exact ⟨_, _, z.1, ⟨rfl, rfl⟩, rfl⟩
  obtain ⟨oe, vs, g1, g2, g3⟩ := key
  exact ⟨a, d, y, oe, od, rfl, ⟨g1, g2.1, by unfold PySem.W.notCls; rw [g3] <;> rfl, by rw [g2.2]; exact ho⟩, h2, h3, ho, vs, g3⟩
theorem kit_exc (I : Inv X pins σ H s) {p : Bool} {c : Nat} {v : PV} {V u} (h : VR Γ φ H W (.exc p c v) V) (r : RelV V u) (ic : ExcC X.K (Γ.clsA c)) : ∃ P : Heap → Prop, PySem.W.KitX X.K u (.ref (Γ.clsA c)) P ∧ P s.heap ∧ u ≠ .builtin "__main__.__loader__#opaque" := by
  obtain ⟨a, d, y, oe, od, rfl, J, _⟩ := exc_inst I h
  obtain rfl : u = Value.ref a := r
  obtain ⟨cd, hc, _⟩ := PySem.W.any_some ic.hd
  exact ⟨_, PySem.W.kitx_exc (by rw [hc]; rfl) ic.hg ic.hk ic.hs ic.ha ic.hn ic.ht ic.hm, J, fun z => nomatch z⟩
end
section
variable {C : Ct}
/-- isinstance by the evaluator's values: an error -/
theorem call_isx (ics : ∀ c, ExcC C.X.K (C.Γ.clsA c)) (cv : Value) : CallR C.X (.builtin "isinstance") (fun xs H Q => ∃ φ W p c v V U b, xs = [V, U] ∧ ClsV U cv ∧ VR C.Γ φ H W (.exc p c v) V ∧ PySem.W.kitOne C.X.K (.ref (C.Γ.clsA c)) cv = some b ∧ Q (.bl b) H) := by
  intro pins s σ H xs us Q I r h
  obtain ⟨φ, W, p, c, v, V, U, b, rfl, hU, vr, e, q⟩ := h
  obtain ⟨u1, u2, rfl, r1, r2⟩ := vals2 r
  have e2 := hU.eq r2
  subst e2
  obtain ⟨P, Z, hp, hx⟩ := kit_exc I vr r1 (ics c)
  exact PySem.W.kia_one Z I.kIn hp e hx fun tk => ⟨.bl b, H, I.tok tk, rfl, q⟩
end
end EV
set_option linter.all false
set_option maxRecDepth 100000
set_option maxHeartbeats 1000000
/-! Ev13: repr of an error. -/
namespace EV
open PySem PySem.Spec PySem.Calls PyProof.Rows L2 Builtin Builtin.Str Builtin.BaseException
/-- what repr asks of an error's class -/
structure ClsR (K : PySem.W.Frag) (C : Addr) (n : Str) : Prop where
  rp : PySem.W.findIn K (.ref C) "__repr__" = some (some (.builtin "BaseException.__repr__"))
  sub : PySem.W.subIn K (.ref C) (.type "BaseException") = some true
  name : ∃ cd, PySem.W.clsIn K C = some cd ∧ excReprHead cd.name.toString = n
section
variable {prog : Program} {w : World} {A : Around} {E : Value → Shared → Prop} {s : Shared} {K : PySem.W.Frag} {x C t0 : Addr} {ox : Obj} {od : Option Obj} {n : Str} {v : Value} {d : PyData} {as : List Addr}
theorem name_exc {Q : String → Shared → Prop} {cd : ClassData} {M : Model} (X : K.In s.heap) (hc : PySem.W.clsIn K C = some cd) (I : PySem.W.InstAt s.heap x ox C od) (hq : Q cd.name.toString s) : wpAny M A (typeNameOfWhole (.ref x)) Q E s := by
  unfold typeNameOfWhole shownTypeOf
  refine wpAny_bind (wpAny_bind ((I.type (M := M)).here ?_))
  rw [if_neg (show ¬ ((Value.ref C == Value.type "builtin_function_or_method") = true) from by simp)]
  refine wpAny_pure ?_
  show wpAny _ _ (do return (← classData C).name.toString) _ _ _
  exact wpAny_bind ((PySem.W.looks_clsIn X hc).here (wpAny_pure hq))
theorem args_exc {M : Model} {Q : Value × List Value → Shared → Prop} {items : List Value} (I : s.heap.get? x = some ox) (hd : ∃ vs, ox.data = .fields vs ∧ vs[0]? = some (.ref t0)) (ht : s.heap.TupAt t0 items) (hq : Q (.ref t0, items) s) : wpAny M A (bexcArgs (.ref x)) Q E s := by
  obtain ⟨vs, hd, h0⟩ := hd
  obtain ⟨ot, k, hto, _, htd⟩ := ht
  unfold bexcArgs
  refine wpAny_bind (wpAny_field I hd h0 (wpAny_bind (wpAny_seqItems hto htd ?_)))
  have : items.toArray.toList = items := by simp
  show wpAny M A (pure (Value.ref t0, items.toArray.toList)) Q E s
  rw [this]; exact wpAny_pure hq
theorem repr_exc {Q : Value → Shared → Prop} (X : K.In s.heap) (T : ClsR K C n) (I : PySem.W.InstAt s.heap x ox C od) (hd : ∃ vs, ox.data = .fields vs ∧ vs[0]? = some (.ref t0)) (ht : s.heap.TupAt t0 [v]) (rd : Reads s.heap v d as)
    (hs : d.showable = true) (hsm : d.hasDict = true → sysModules ∉ as) (hg : A.guards = some []) (hu : A.units + (d.depth + 10) < cLine) (hz : n.length + 1 + d.shown.length + 1 ≤ sizeLine)
    (hq : ∀ h' tk u, (∀ b o, s.heap.get? b = some o → h'.get? b = some o) → Q (.str (n ++ Str.ofString "(" ++ d.shown ++ Str.ofString ")") u) { s with heap := h', toks := tk }) :
    wpAny (model prog w) A (call (.builtin "repr") [.ref x]) Q E s := by
  have S := PySem.F.excStr_ValueError.repr
  have L0 := I.type (M := model prog w)
  have L1 := PySem.W.looks_findIn (M := model prog w) X T.rp
  have sub : PySem.W.Looks (model prog w) s.heap (isInstance (.ref x) (.type "BaseException")) true := L0.andThen (PySem.W.looks_subIn X T.sub)
  refine Calls.call_function_entry F.kind_repr F.plain_repr F.entry_repr (F.args_repr1 _) ?_
  unfold Builtin.«repr»
  refine wpAny_bind (m := oneArg "repr" _) (wpAny_pure ?_)
  refine wpAny_bind (wpAny_cRoomFor (show A.in1.units < cLine from by show A.units + 1 < cLine; omega) ?_)
  refine wpAny_bind (wpAny_bind (L0.here (L1.here ?_)))
  refine wpAny_bind (m := callSpecialIfBound? (.ref x) (Str.ofString "__repr__")) ?_
  obtain ⟨cd, hcd, hn⟩ := T.name
  have body : ∀ {E : Value → Shared → Prop}, wpAny (model prog w) A.in1 (call (.builtin "BaseException.__repr__") [.ref x]) (fun r s' => ∃ h' tk u, r = .str (n ++ Str.ofString "(" ++ d.shown ++ Str.ofString ")") u ∧ s' = { s with heap := h', toks := tk } ∧ ∀ b o, s.heap.get? b = some o → h'.get? b = some o) E s := fun {E} => by
    refine wpAny_call (codeAny_call_builtin S.plain F.entry_bexc_repr ?_)
    refine @PySem.W.check_slot (model prog w) _ _ s "BaseException.__repr__" "BaseException" "__repr__" (.ref x) [] [] _ (by decide +kernel) (by decide +kernel) sub (F.args_bexc_repr (.ref x)) ?_
    show wpAny _ _ (Builtin.bexcReprAt 0 ⟨[.ref x], []⟩) _ _ _
    unfold Builtin.bexcReprAt
    obtain ⟨bs, _, rk⟩ := ReprK.of_reads (prog := prog) (w := w) rd hs hsm (by omega)
    refine wpAny_bind (wpAny_of_eq (a := ((Value.ref x : Value), ([] : List Value))) (by first | rfl | (simp only [slotArgs]; rfl)) ?_)
    refine wpAny_bind (name_exc X hcd I ?_)
    refine wpAny_bind (args_exc I.at_ hd ht ?_)
    have hn' : Str.ofString ((cd.name.toString.cutAt '.').getLastD "") = n := hn
    dsimp only
    rw [hn']
    refine wpAny_bind (wpAny_rule ?_)
    have eP : (Str.ofString "(").length = 1 := by rw [PySem.ofString_length]; rfl
    have eQ : (Str.ofString ")").length = 1 := by rw [PySem.ofString_length]; rfl
    refine wpAny_bind (rk _ (by omega) A.in1.in1 [] _ s _ hg (fun b _ => Clear.nil b) (by show A.units + 1 + 1 + d.depth < cLine; omega) (fun _ _ z => z) fun h' tk k => ?_)
    have hzz : (n ++ Str.ofString "(" ++ d.shown ++ Str.ofString ")").length ≤ sizeLine := by
      rw [strLen_append, strLen_append, strLen_append, eP, eQ]; omega
    repeat wp_step
    exact ⟨h', _, _, rfl, rfl, k⟩
  simp only [callSpecialIfBound?, bindSpecialIfBound?]
  refine wpAny_holding (wpAny_bind (wpAny_bind (wpAny_bind (L0.here (L1.here ?_)))))
  simp only [S.bind]
  refine wpAny_bind (wpAny_askSetting (wpAny_ite ?_))
  have fin : ∀ {Q' : Option Value → Shared → Prop}, (∀ h' tk u, (∀ b o, s.heap.get? b = some o → h'.get? b = some o) → Q' (some (.str (n ++ Str.ofString "(" ++ d.shown ++ Str.ofString ")") u)) { s with heap := h', toks := tk }) →
      wpAny (model prog w) A.in1 (call (.builtin "BaseException.__repr__") ([.ref x] ++ []) >>= fun v => pure (some v)) Q' E s := fun {Q'} q =>
      wpAny_bind (wpAny_mono body (fun v s' h' => by
        obtain ⟨h1, tk, u, rfl, rfl, k⟩ := h'
        exact wpAny_pure (q h1 tk u k)) fun _ _ z => z)
  split
  · exact wpAny_bind (wpAny_pure (wpAny_pure (fin fun h' tk u k => wpAny_bind (wpAny_isInstance (T := "str") (b := true) rfl isSubtype_str_str (wpAny_pure ⟨_, rfl, hq h' tk u k⟩)))))
  · exact wpAny_tryCatch (wpAny_bind (wpAny_pure (wpAny_pure (fin fun h' tk u k => wpAny_bind (wpAny_isInstance (T := "str") (b := true) rfl isSubtype_str_str (wpAny_pure ⟨_, rfl, hq h' tk u k⟩))))))
end
end EV
set_option linter.all false
set_option maxRecDepth 100000
set_option maxHeartbeats 1000000
/-! Ev14: isinstance, fields, repr as expressions. -/
namespace EV
open PySem PySem.Spec PySem.Calls PyProof.Rows L2
section
variable {C : Ct}
theorem pa_two {a : Expr} {x : Str} {p2 : Pos} {f V} (hs : isStar a = false) (ha : PE C.X a (tE C f)) (hx : PE C.X (.Name x p2) (tC V)) : PA C.X [a, .Name x p2] (tCons (tE C f) (tCons (tC V) tNil)) :=
  pa_cons ha (pa_cons hx pa_nil rfl) (starEach_cons hs)
/-- isinstance(e, BadX) -/
theorem se_isx {c2 : Nat} {sub : Nat → Nat → Bool} {a : Expr} {x : Str} {p p2 pos : Pos} {f} (ics : ∀ c, ExcC C.X.K (C.Γ.clsA c)) (hsub : ∀ c, PySem.W.kitOne C.X.K (.ref (C.Γ.clsA c)) (.ref (C.Γ.clsA c2)) = some (sub c c2))
    (hnone : PySem.W.kitOne C.X.K (.type "NoneType") (.ref (C.Γ.clsA c2)) = some false)
    (hg : Gl C.X "isinstance") (hm : C.X.mg "isinstance" = none) (hg2 : Gl C.X x) (hm2 : C.X.mg x = some (.ref (C.Γ.clsA c2))) (hd : (x == ("__debug__" : Str)) = false) (hs : isStar a = false) (ha : PE C.X a (tE C f)) :
    PE C.X (.Call (.Name "isinstance" p) [a, .Name x p2] [] pos) (tE C fun ρ h => (f ρ h).bnd fun v h => match v with
      | .exc _ d _ => .ok (.bl (sub d c2)) h
      | .non => .ok (.bl false) h
      | _ => .err) := by
  refine ⟨fun pins s σ H Q I ⟨φ, ρ, h, rl, po⟩ => ?_⟩
  have hpa := pa_two (C := C) (p2 := p2) (V := .ref (C.Γ.clsA c2)) hs ha (pe_glob hg2 hm2 rfl hd)
  have hst : starEach [a, .Name x p2] C.X.env = (false, eval a C.X.env) :: starEach [.Name x p2] C.X.env := starEach_cons hs
  -- which rule is taken hangs on the value
  dsimp only at po
  cases e : f ρ h with
  | ok v h1 =>
    have po : Po C φ σ H (match v with
      | .exc _ d _ => Rz.ok (PV.bl (sub d c2)) h1
      | .non => .ok (.bl false) h1
      | _ => .err) (fun v φ' _ H' => ∀ V, VR C.Γ φ' H' (C.W σ H') v V → Q V H') := by rw [e] at po; exact po
    cases v with
    | exc p0 d w =>
      refine (pe_callB (call_isx ics (.ref (C.Γ.clsA c2))) hg hm (by decide +kernel) hpa (by decide) (by decide) hst (by rfl)).run pins s σ H Q I ?_
      refine tE.of rl e fun φ' H' V s' hr vr => ?_
      exact ⟨φ', _, p0, d, w, V, .ref (C.Γ.clsA c2), _, rfl, .own _, vr, hsub d, po φ' H' s' hr (.bl (sub d c2)) rfl⟩
    | non =>
      refine (pe_callB call_isi hg hm (by decide +kernel) hpa (by decide) (by decide) hst (by rfl)).run pins s σ H Q I ?_
      refine tE.of rl e fun φ' H' V s' hr vr => ?_
      obtain rfl := vr_non vr
      exact ⟨.non, .ref (C.Γ.clsA c2), .type "NoneType", _, false, rfl, .own _, .base .non, hnone, po φ' H' s' hr (.bl false) rfl⟩
    | _ => exact po.elim
  | ex c v h1 =>
    rw [e] at po
    refine (pe_callB call_isi hg hm (by decide +kernel) hpa (by decide) (by decide) hst (by rfl)).run pins s σ H Q I ?_
    exact ⟨φ, ρ, h, rl, by rw [e]; exact po⟩
  | err => rw [e] at po; exact po.elim
def Ty.tyv : Ty → V
  | t => .ty t.name
theorem bltn_ty {t : Ty} {p2 : Pos} (hg2 : Gl C.X t.sname) (hm2 : C.X.mg t.sname = none) : PE C.X (.Name t.sname p2) (tC (.ty t.name)) := by
  cases t
  case int => exact pe_bltn hg2 hm2 (by decide +kernel) (show RelV (.ty "int") (.type "int") from rfl) (by decide) (by decide)
  case bool => exact pe_bltn hg2 hm2 (by decide +kernel) (show RelV (.ty "bool") (.type "bool") from rfl) (by decide) (by decide)
  case str => exact pe_bltn hg2 hm2 (by decide +kernel) (show RelV (.ty "str") (.type "str") from rfl) (by decide) (by decide)
  case tuple => exact pe_bltn hg2 hm2 (by decide +kernel) (show RelV (.ty "tuple") (.type "tuple") from rfl) (by decide) (by decide)
  case list => exact pe_bltn hg2 hm2 (by decide +kernel) (show RelV (.ty "list") (.type "list") from rfl) (by decide) (by decide)
  case verr => exact pe_bltn hg2 hm2 (by decide +kernel) (show RelV (.ty "ValueError") (.type "ValueError") from rfl) (by decide) (by decide)
/-- isinstance(e, int) .. -/
theorem se_isi {t : Ty} {a : Expr} {p p2 pos : Pos} {f} (hK : C.X.K = C.Γ.K) (ics : ∀ c, ExcC C.X.K (C.Γ.clsA c)) (hve : ∀ c, PySem.W.kitOne C.X.K (.ref (C.Γ.clsA c)) (.type "ValueError") = some true)
    (hg : Gl C.X "isinstance") (hm : C.X.mg "isinstance" = none) (hg2 : Gl C.X t.sname) (hm2 : C.X.mg t.sname = none) (hs : isStar a = false) (ha : PE C.X a (tE C f)) :
    PE C.X (.Call (.Name "isinstance" p) [a, .Name t.sname p2] [] pos) (tE C fun ρ h => (f ρ h).bnd fun v h => match isV t v h with
      | some b => .ok (.bl b) h
      | none => .err) := by
  refine ⟨fun pins s σ H Q I ⟨φ, ρ, h, rl, po⟩ => ?_⟩
  have hpa := pa_two (C := C) (p2 := p2) (V := .ty t.name) hs ha (bltn_ty hg2 hm2)
  have hst : starEach [a, .Name t.sname p2] C.X.env = (false, eval a C.X.env) :: starEach [.Name t.sname p2] C.X.env := starEach_cons hs
  dsimp only at po
  cases e : f ρ h with
  | ok v h1 =>
    have po : Po C φ σ H (match isV t v h1 with
      | some b => Rz.ok (PV.bl b) h1
      | none => .err) (fun v φ' _ H' => ∀ V, VR C.Γ φ' H' (C.W σ H') v V → Q V H') := by rw [e] at po; exact po
    have go : ∀ {n : String} {b : Bool}, isV t v h1 = some b → kitB n t.name = some b → (∀ φ' H' V, Stp φ φ' H H' → HR C.Γ φ' H' (C.W σ H') h1 → VR C.Γ φ' H' (C.W σ H') v V → TyX C.X.K H' V (.type n)) → wpAny (model C.X.prog C.X.w) C.X.A (eval (.Call (.Name "isinstance" p) [a, .Name t.sname p2] [] pos) C.X.env) (EP C.X pins σ Q) C.X.xe s := fun {n b} ei hb ty => by
      rw [ei] at po
      refine (pe_callB call_isi hg hm (by decide +kernel) hpa (by decide) (by decide) hst (by rfl)).run pins s σ H Q I ?_
      refine tE.of rl e fun φ' H' V s' hr vr => ?_
      exact ⟨V, .ty t.name, .type n, _, b, rfl, .ty _, ty φ' H' V s' hr vr, kit_ty hb, po φ' H' s' hr (.bl b) rfl⟩
    cases v with
    | non => cases t <;> exact go (n := "NoneType") rfl (by decide +kernel) fun φ' H' V s' hr vr => by obtain rfl := vr_non vr; exact .base .non
    | bl b => cases t <;> exact go (n := "bool") rfl (by decide +kernel) fun φ' H' V s' hr vr => by obtain rfl := vr_bl vr; exact .base (.bl b)
    | int b => cases t <;> exact go (n := "int") rfl (by decide +kernel) fun φ' H' V s' hr vr => by obtain rfl := vr_int vr; exact .base (.int b)
    | str b => cases t <;> exact go (n := "str") rfl (by decide +kernel) fun φ' H' V s' hr vr => by obtain rfl := vr_str vr; exact .base (.str b)
    | tup b =>
      have ty : ∀ φ' H' V, Stp φ φ' H H' → HR C.Γ φ' H' (C.W σ H') h1 → VR C.Γ φ' H' (C.W σ H') (.tup b) V → TyX C.X.K H' V (.type "tuple") := fun φ' H' V s' hr vr => by
        obtain ⟨q, vs, rfl, st, _⟩ := vr_tup vr
        rw [hK]
        rcases st with (st | ⟨o, st⟩) | ⟨o, its, n, st, sc, _⟩
        · exact .base (.tup st)
        · exact .fTuple st
        · exact .kTuple st sc
      cases t <;> exact go (n := "tuple") rfl (by decide +kernel) ty
    | ref m =>
      cases eh : h1[m]? with
      | none => simp only [isV, eh] at po; exact po.elim
      | some o =>
        cases o with
        | lst fz xs =>
          have ty : ∀ φ' H' V, Stp φ φ' H H' → HR C.Γ φ' H' (C.W σ H') h1 → VR C.Γ φ' H' (C.W σ H') (.ref m) V → TyX C.X.K H' V (.type "list") := fun φ' H' V s' hr vr => by
            simp only [VR] at vr
            obtain ⟨q, eq, rfl⟩ := vr
            have z := hr.at_ m _ q eh eq
            cases fz with
            | false => obtain ⟨vs, z, _⟩ := z; exact .base (.lst z)
            | true => obtain ⟨vs, ⟨o, z⟩, _⟩ := z; exact .base (.frz z)
          cases t <;> exact go (n := "list") (by simp only [isV, eh]; rfl) (by decide +kernel) ty
        | dct0 =>
          have ty : ∀ φ' H' V, Stp φ φ' H H' → HR C.Γ φ' H' (C.W σ H') h1 → VR C.Γ φ' H' (C.W σ H') (.ref m) V → TyX C.X.K H' V (.type "dict") := fun φ' H' V s' hr vr => by
            simp only [VR] at vr
            obtain ⟨q, eq, rfl⟩ := vr
            exact .base (.dK (hr.at_ m _ q eh eq))
          cases t <;> exact go (n := "dict") (b := false) (by simp only [isV, eh]) (by decide +kernel) ty
        | dead => simp only [isV, eh] at po; exact po.elim
    | exc p0 d w =>
      cases t
      case verr =>
        have po : Po C φ σ H (Rz.ok (PV.bl true) h1) (fun v φ' _ H' => ∀ V, VR C.Γ φ' H' (C.W σ H') v V → Q V H') := po
        refine (pe_callB (call_isx ics (.type "ValueError")) hg hm (by decide +kernel) hpa (by decide) (by decide) hst (by rfl)).run pins s σ H Q I ?_
        refine tE.of rl e fun φ' H' V s' hr vr => ?_
        exact ⟨φ', _, p0, d, w, V, .ty "ValueError", true, rfl, .ty _, vr, hve d, po φ' H' s' hr (.bl true) rfl⟩
      all_goals exact po.elim
    | clo k xs => exact po.elim
  | ex c v h1 =>
    rw [e] at po
    refine (pe_callB call_isi hg hm (by decide +kernel) hpa (by decide) (by decide) hst (by rfl)).run pins s σ H Q I ?_
    exact ⟨φ, ρ, h, rl, by rw [e]; exact po⟩
  | err => rw [e] at po; exact po.elim
/-- err.value -/
theorem se_attr {a : Expr} {pos : Pos} {f} (ics : ∀ c, ExcC C.X.K (C.Γ.clsA c)) (hv : ∀ c, PySem.W.findIn C.X.K (.ref (C.Γ.clsA c)) "value" = some none) (hb : attributeBase a "value" C.X.env (eval a C.X.env) = eval a C.X.env) (ha : PE C.X a (tE C f)) :
    PE C.X (.Attribute a "value" pos) (tE C fun ρ h => (f ρ h).bnd fun x h => match x with
      | .exc _ _ v => .ok v h
      | _ => .err) := by
  refine ⟨fun pins s σ H Q I ⟨φ, ρ, h, rl, po⟩ => ?_⟩
  refine attr_of hb (thn (ha.run pins s σ H _ I (tE.mk (Q := fun V H1 => ∃ φ1 p c v h1, HR C.Γ φ1 H1 (C.W σ H1) h1 ∧ VR C.Γ φ1 H1 (C.W σ H1) (.exc p c v) V ∧ Po C φ1 σ H1 (.ok v h1) (fun v φ' _ H' => ∀ V, VR C.Γ φ' H' (C.W σ H') v V → Q V H')) rl (po.bnd.imp fun x φ1 h1 H1 s1 hr1 p1 V vr rl1 => ?_))) fun u s1 hh => ?_)
  · cases x with
    | exc p c v => exact ⟨φ1, p, c, v, h1, hr1, vr, p1⟩
    | _ => exact p1.elim
  · obtain ⟨V, H1, I1, ru, φ1, p, c, v, h1, hr1, vr, p1⟩ := hh
    obtain ⟨b, d, y, oe, od, rfl, J, hd, vy, ho, _⟩ := exc_inst I1 vr
    obtain rfl : u = Value.ref b := ru
    have hx : ObjOk C.X.prog C.X.w H1 s1.heap d (.xd [("value", y)]) := I1.hok d _ hd
    obtain ⟨mA, hns, hr⟩ := hx
    obtain ⟨od', ho', hl⟩ := lookIn_ns hns
    rw [ho] at ho'
    cases ho'
    obtain ⟨u2, hu, ru2⟩ := RelO.some_of (v := y) (o := mA "value") (hr "value")
    have T := ics c
    exact HandSPX.exc_get I1.kIn J T.hg T.hk T.hs (PySem.W.findObj_own T.hd (hv c) rfl (by rw [hl, hu])) (handed_of ru2) ⟨y, H1, I1.tok _, ru2, p1.ok' hr1 y vy⟩
/-- repr(e) of any value -/
theorem se_rpx {cnm : Nat → Str} {a : Expr} {p pos : Pos} {f} (hK : C.X.K = C.Γ.K) (hc : C.X.calm = true) (hu : C.X.A.units + 90 < cLine) (hgd : C.X.A.guards = some []) (hr : ∀ c, ClsR C.X.K (C.Γ.clsA c) (cnm c))
    (hg : Gl C.X "repr") (hm : C.X.mg "repr" = none) (hs : isStar a = false) (ha : PE C.X a (tE C f)) :
    PE C.X (.Call (.Name "repr" p) [a] [] pos) (tE C fun ρ h => (f ρ h).bnd fun x h => match x with
      | .exc true c v => match dataOf h v with
        | some d => if dictOk d = true ∧ d.showable = true ∧ d.depth ≤ 60 ∧ (cnm c).length + d.shown.length + 2 ≤ sizeLine then .ok (.str (cnm c ++ Str.ofString "(" ++ d.shown ++ Str.ofString ")")) h else .err
        | none => .err
      | _ => reprV x h) := by
  have rl0 : CallR C.X (.builtin "repr") (fun xs H Q => ∃ σ φ ρ h x V, xs = [V] ∧ Rl C φ h ρ σ H ∧ VR C.Γ φ H (C.W σ H) x V ∧ Po C φ σ H (match x with
      | .exc true c v => match dataOf h v with
        | some d => if dictOk d = true ∧ d.showable = true ∧ d.depth ≤ 60 ∧ (cnm c).length + d.shown.length + 2 ≤ sizeLine then .ok (.str (cnm c ++ Str.ofString "(" ++ d.shown ++ Str.ofString ")")) h else .err
        | none => .err
      | _ => reprV x h) (fun v φ' _ H' => ∀ V, VR C.Γ φ' H' (C.W σ H') v V → Q V H')) := by
    intro pins s σ' H xs us Q I r hh
    obtain ⟨σ, φ, ρ, h, x, V, rfl, rl, vx, po⟩ := hh
    have other : (∀ c v, x ≠ .exc true c v) → wpAny (model C.X.prog C.X.w) C.X.A (call (.builtin "repr") us) (EP C.X pins σ' Q) C.X.xe s := fun hne => by
      refine call_V (C := C) hK hc (by omega) hgd .repr _ rfl pins s σ' H _ us Q I r ⟨σ, φ, ρ, h, [x], rl, ⟨V, [], rfl, vx, rfl⟩, ?_⟩
      have e : bltV .repr [x] h = reprV x h := rfl
      rw [e]
      cases x with
      | exc p c v =>
        cases p with
        | true => exact absurd rfl (hne c v)
        | false => exact po
      | _ => exact po
    cases x with
    | exc p c v =>
      cases p with
      | false => exact other fun c' v' z => by cases z
      | true =>
        dsimp only at po
        cases ed : dataOf h v with
        | none => rw [ed] at po; exact po.elim
        | some d =>
          rw [ed] at po
          obtain ⟨⟨c0, c1, c2, c3⟩, po⟩ := po.if_
          obtain ⟨u, rfl, ru⟩ := Vals.one r
          have vx' := vx
          simp only [VR] at vx'
          obtain ⟨b, dx, y, rfl, ⟨t0, h1, h2⟩, h3, vy⟩ := vx'
          obtain ⟨b', d', y', oe, od, q, J, q2, _, _, _⟩ := exc_inst I vx
          cases q
          obtain rfl : u = Value.ref b := ru
          have z : ObjOk C.X.prog C.X.w H s.heap b (ExA (.ref (C.Γ.clsA c)) dx t0 b) := I.hok b _ h1
          have z1 : s.heap.get? b = some _ := z.1
          rw [J.at_] at z1
          cases z1
          obtain ⟨its, rv, ht, hz⟩ := I.tuple (ofK hK h2)
          cases rv with
          | cons ry rn =>
            cases rn
            rename_i yv
            obtain ⟨as, rd, ns⟩ := reads_of hK I rl.hr ed vy ry
            refine repr_exc I.kIn (hr c) J ⟨_, rfl, rfl⟩ (let ⟨o, g1, g2, n, g3⟩ := ht; ⟨o, n, g1, g2, g3⟩) rd c1 (fun z => ?_) hgd (by omega) (by omega) fun h' tk u k => ⟨.str _, H, I.kept k, ⟨u, rfl⟩, po.ok' rl.hr _ rfl⟩
            obtain ⟨kvs, e⟩ := dictOk_of c0 z
            exact ns kvs e
    | _ => exact other fun c' v' z => by cases z
  refine (pe_callB rl0 hg hm (by decide +kernel) (pa_one hs ha) (by decide) (by decide) (starEach_cons hs) (by rfl)).imp fun σ H Q ⟨φ, ρ, h, rl, po⟩ => ?_
  refine tE.mk rl (po.bnd.imp fun x φ1 h1 H1 s1 hr1 p1 V v rl1 => ?_)
  exact ⟨σ, φ1, ρ, h1, x, V, rfl, rl1, v, p1⟩
end
end EV
set_option linter.all false
set_option maxRecDepth 100000
set_option maxHeartbeats 1000000
/-! Ev15: the IR against the text: what is checked. -/
namespace EV
open PySem PySem.Spec PyProof.Rows L2

/-- the module's names -/
structure Nms where
  fns : List Str
  glb : List Str
  cls : List Str
/-- a block's names -/
structure Sc where
  sc : Scope
  N : List Str
  top : Bool
  flag : Bool
structure Rp where
  e : Sc → Expr → Bool
  t : Sc → Expr → Bool
  w : Sc → Expr → Bool
  a : Sc → List Expr → Bool
  o : Sc → Option Expr → Bool
  s : Sc → Stmt → Bool
  ss : Sc → List Stmt → Bool
  g : Sc → Expr → Bool
  gs : Sc → List Expr → Bool
  i : Sc → Expr → Bool
  ts : Sc → List Expr → Bool
def Rp.no : Rp := ⟨fun _ _ => false, fun _ _ => false, fun _ _ => false, fun _ _ => false, fun _ _ => false, fun _ _ => false, fun _ _ => false, fun _ _ => false, fun _ _ => false, fun _ _ => false, fun _ _ => false⟩
def Rp.ofE (r : Sc → Expr → Bool) : Rp := { Rp.no with
  e := r
  t := fun I x => plainT x && r I x
  i := fun I x => notSet x && r I x
  o := fun I x => match x with
    | some x => r I x
    | none => false
  ts := fun I x => match x with
    | [c] => plainT c && r I c
    | _ => false }
where notSet : Expr → Bool
  | .Set .. => false
  | _ => true
def Rp.ofT (r t w : Sc → Expr → Bool) : Rp := { Rp.ofE r with t := t, w := w, ts := fun I x => match x with
    | [c] => t I c
    | _ => false }
def Rp.ofS (r : Sc → Stmt → Bool) : Rp := { Rp.no with s := r }
def isSl : Expr → Bool
  | .Slice .. => true
  | _ => false
def isComp : Expr → Bool
  | .ListComp .. => true
  | .SetComp .. => true
  | .DictComp .. => true
  | _ => false
def isTupE : Expr → Bool
  | .Tuple .. => true
  | _ => false
def isTupL : Expr → Bool
  | .Tuple .. => true
  | .List .. => true
  | _ => false
/-- its attribute is asked of it plainly -/
def plainBase : Expr → Bool
  | .Call _ [] [] _ => false
  | _ => true
def isCall : Expr → Str → Bool
  | .Call (.Name x _) _ _ _, y => decide (x = y)
  | _, _ => false
def relSc (scope sc : Scope) : Scope := relS scope sc
/-- a comprehension's names are what they must be -/
def blkB (N : List Str) (sc scope : Scope) (own : List Nat) : Bool :=
  decide (scope.kind = .function) && (scope.names.all fun y => decide (scope.names.lookup y.1 = some y.2)) &&
  (scope.names.all fun y => decide (y.2 ≠ .free) || decide (sc.names.lookup y.1 = some .cell) || decide (sc.names.lookup y.1 = some .free)) &&
  (scope.names.all fun y => (decide (y.2 ≠ .local) && decide (y.2 ≠ .cell)) || (own.any fun i => decide (N[i]? = some y.1)) || !N.contains y.1) &&
  (own.all fun i => (N[i]?).isSome)
def constB : Const → PV → Bool
  | .none, .non => true
  | .bool a, .bl b => a == b
  | .int a, .int b => decide (a = b)
  | .str a, .str b => decide (a = b)
  | _, _ => false
def noStar (es : List Expr) : Bool := es.all fun e => !isStar e
def Blt (b : BI) : Bool := match b with
  | .lrng => false
  | .bitl => false
  | _ => true
def rep (M : Nms) : T → Rp
  | .var i => .ofE fun I x => match x with
    | .Name x _ => decide (I.N[i]? = some x) && (visB I.sc x && okName x)
    | _ => false
  | .cst c => .ofE fun I x => match x with
    | .Constant k _ _ => constB k c
    | _ => false
  | .glb g => .ofE fun I x => match x with
    | .Name x _ => decide (M.glb[g]? = some x) && (glB I.sc x && okName x)
    | _ => false
  | .tup es => .ofE fun I x => match x with
    | .Tuple xs _ _ => (rep M es).a I xs
    | _ => false
  | .lst es => .ofE fun I x => match x with
    | .List xs _ => (rep M es).a I xs
    | _ => false
  | .dct0 => .ofE fun I x => match x with
    | .Dict [] [] _ => true
    | _ => false
  | .bin op a b => .ofE fun I x => match x with
    | .BinOp y o z _ => decide (o = op) && ((rep M a).e I y && (rep M b).e I z)
    | _ => false
  | .neg a => .ofE fun I x => match x with
    | .UnaryOp .USub y _ => (rep M a).e I y
    | _ => false
  | .nt a => .ofT (fun I x => match x with
      | .UnaryOp .Not y _ => (rep M a).e I y
      | _ => false) (fun I x => match x with
      | .UnaryOp .Not y _ => (rep M a).t I y
      | _ => false) (fun _ _ => false)
  | .an a b => .ofT (fun I x => match x with
      | .BoolOp .And [y, z] _ => (rep M a).e I y && (rep M b).e I z
      | .BoolOp .And (y :: z :: u :: r) p => (rep M a).e I y && (rep M b).e I (.BoolOp .And (z :: u :: r) p)
      | _ => false)
    (fun I x => match x with
      | .BoolOp .And [y, z] _ => (rep M a).t I y && (rep M b).t I z
      | .BoolOp .And (y :: z :: u :: r) p => (rep M a).t I y && (rep M b).w I (.BoolOp .And (z :: u :: r) p)
      | _ => false)
    (fun I x => match x with
      | .BoolOp .And [y, z] _ => (rep M a).t I y && (rep M b).t I z
      | .BoolOp .And (y :: z :: u :: r) p => (rep M a).t I y && (rep M b).w I (.BoolOp .And (z :: u :: r) p)
      | _ => false)
  | .oo a b => .ofT (fun I x => match x with
      | .BoolOp .Or [y, z] _ => (rep M a).e I y && (rep M b).e I z
      | .BoolOp .Or (y :: z :: u :: r) p => (rep M a).e I y && (rep M b).e I (.BoolOp .Or (z :: u :: r) p)
      | _ => false)
    (fun I x => match x with
      | .BoolOp .Or [y, z] _ => (rep M a).t I y && (rep M b).t I z
      | .BoolOp .Or (y :: z :: u :: r) p => (rep M a).t I y && (rep M b).w I (.BoolOp .Or (z :: u :: r) p)
      | _ => false)
    (fun I x => match x with
      | .BoolOp .Or [y, z] _ => (rep M a).t I y && (rep M b).t I z
      | .BoolOp .Or (y :: z :: u :: r) p => (rep M a).t I y && (rep M b).w I (.BoolOp .Or (z :: u :: r) p)
      | _ => false)
  | .cmp op a b => .ofT (fun I x => match x with
      | .Compare y [o] [z] _ => decide (o = op) && (!behindInMarks op z && ((rep M a).e I y && (rep M b).e I z))
      | _ => false)
    (fun I x => match x with
      | .Compare y [o] [z] _ => decide (o = op) && (!behindInMarks op z && ((rep M a).e I y && (rep M b).e I z))
      | _ => false) (fun _ _ => false)
  | .chn op op' a b c => .ofE fun I x => match x with
    | .Compare y [o, o'] [z, u] _ => decide (o = op) && (decide (o' = op') && (!lastMarks [op, op'] [z, u] && ((rep M a).e I y && ((rep M b).e I z && (rep M c).e I u))))
    | _ => false
  | .ife c a b => .ofE fun I x => match x with
    | .IfExp y z u _ => (rep M c).t I y && ((rep M a).e I z && (rep M b).e I u)
    | _ => false
  | .idx a i => .ofE fun I x => match x with
    | .Subscript y z _ => !isSl z && ((rep M a).e I y && (rep M i).e I z)
    | _ => false
  | .slc a lo hi => .ofE fun I x => match x with
    | .Subscript y (.Slice l u .none _) _ => (rep M a).e I y && ((rep M lo).o I l && (rep M hi).o I u)
    | _ => false
  | .rvs _ => .no
  | .none => { Rp.no with o := fun _ x => match x with
    | .none => true
    | _ => false }
  | .call f args => .ofE fun I x => match x with
    | .Call (.Name x _) es [] _ => decide (M.fns[f]? = some x) && (glB I.sc x && (okName x && (!I.flag && (noStar es && (!es.isEmpty && (rep M args).a I es)))))
    | _ => false
  | .callk _ _ _ _ => .no
  | .blt b args => .ofE fun I x => match x with
    | .Call (.Name x _) (e :: es) [] _ => Blt b && (decide (b.str = x) && (glB I.sc x && (noStar (e :: es) && (rep M args).a I (e :: es))))
    | _ => false
  | .lrg a => .ofE fun I x => match x with
    | .Call (.Name x _) [.Call (.Name y _) [z] [] _] [] _ => decide (x = ("list" : Str)) && (decide (y = ("range" : Str)) && (glB I.sc x && (glB I.sc y && (!isStar z && (rep M a).e I z))))
    | _ => false
  | .isi ty a => .ofE fun I x => match x with
    | .Call (.Name x _) [e, .Name y _] [] _ => decide (x = ("isinstance" : Str)) && (decide (y = ty.sname) && (glB I.sc x && (glB I.sc y && (!isStar e && (rep M a).e I e))))
    | _ => false
  | .isx c a => .ofE fun I x => match x with
    | .Call (.Name x _) [e, .Name y _] [] _ => decide (x = ("isinstance" : Str)) && (decide (M.cls[c]? = some y) && (glB I.sc x && (glB I.sc y && (okName y && (!isStar e && (rep M a).e I e)))))
    | _ => false
  | .clov _ _ => .no
  | .exn c a => .ofE fun I x => match x with
    | .Call (.Name y _) [e] [] _ => decide (M.cls[c]? = some y) && (glB I.sc y && (okName y && (!isStar e && (rep M a).e I e)))
    | _ => false
  | .attr a => .ofE fun I x => match x with
    | .Attribute e f _ => decide (f = ("value" : Str)) && (plainBase e && (rep M a).e I e)
    | _ => false
  | .lc own tg it tst el => .ofE fun I x => match x with
    | .ListComp elt [⟨t', iter, ifs, 0⟩] scope _ => blkB I.N I.sc scope own && (tg.wr.all (fun i => own.contains i) && (Rp.ofE.notSet iter && ((rep M it).i I iter &&
      ((rep M tg).g ⟨relSc scope I.sc, I.N, false, false⟩ t' && ((rep M tst).ts ⟨relSc scope I.sc, I.N, false, false⟩ ifs && (rep M el).e ⟨relSc scope I.sc, I.N, false, false⟩ elt)))))
    | _ => false
  | .lam _ => .no
  | .nil => { Rp.no with
      a := fun _ x => match x with
        | [] => true
        | _ => false
      ss := fun _ x => match x with
        | [] => true
        | _ => false
      gs := fun _ x => match x with
        | [] => true
        | _ => false
      ts := fun _ x => match x with
        | [] => true
        | _ => false }
  | .cons e r => { Rp.no with
      a := fun I x => match x with
        | y :: z => !isStar y && ((rep M e).e I y && (rep M r).a I z)
        | [] => false
      ss := fun I x => match e with
        | .kil _ => (rep M r).ss I x
        | _ => match x with
          | y :: z => (rep M e).s I y && (rep M r).ss I z
          | [] => false
      gs := fun I x => match x with
        | y :: z => !isStar y && ((rep M e).g I y && (rep M r).gs I z)
        | [] => false }
  | .star _ _ => .no
  | .asg tg e => .ofS fun I x => match x with
    | .Assign [t'] v _ => !isStar t' && (!isComp v && ((!isTupE v || !isTupL t') && ((rep M e).e I v && (rep M tg).g I t')))
    | _ => false
  | .aug _ _ _ => .no
  | .iff c a b => .ofS fun I x => match x with
    | .If y z u _ => (rep M c).t I y && ((rep M a).ss I z && (rep M b).ss I u)
    | _ => false
  | .whl c b => .ofS fun I x => match x with
    | .While y z [] _ => (rep M c).t I y && (rep M b).ss I z
    | _ => false
  | .fo tg it b => .ofS fun I x => match x with
    | .For t' y z [] _ => Rp.ofE.notSet y && ((rep M tg).g I t' && ((rep M it).i I y && (rep M b).ss I z))
    | _ => false
  | .ret e => .ofS fun I x => match x with
    | .Return (some y) _ => (rep M e).e I y
    | _ => false
  | .retn => .ofS fun I x => match x with
    | .Return .none _ => true
    | _ => false
  | .xpr e => .ofS fun I x => match x with
    | .Expr y _ => !isComp y && (rep M e).e I y
    | _ => false
  | .app l e => .ofS fun I x => match x with
    | .Expr (.Call (.Attribute o m p) [y] [] q) _ => decide (m = ("append" : Str)) && ((p.endLine == q.line) && (plainBase o && (!isStar y && ((rep M l).e I o && (rep M e).e I y))))
    | _ => false
  | .ext l e => .ofS fun I x => match x with
    | .Expr (.Call (.Attribute o m p) [y] [] q) _ => decide (m = ("extend" : Str)) && ((p.endLine == q.line) && (plainBase o && (!isStar y && ((rep M l).e I o && (rep M e).e I y))))
    | _ => false
  | .rse _ _ => .no
  | .brk => .ofS fun I x => match x with
    | .Break _ => true
    | _ => false
  | .cnt => .ofS fun I x => match x with
    | .Continue _ => true
    | _ => false
  | .pas => .ofS fun I x => match x with
    | .Pass _ => true
    | _ => false
  | .doc => .no
  | .try1 _ _ _ _ _ => .no
  | .kil _ => .no
  | .rpx a => .ofE fun I x => match x with
    | .Call (.Name x _) [e] [] _ => decide (x = ("repr" : Str)) && (glB I.sc x && (!isStar e && (rep M a).e I e))
    | _ => false
  | .tn i => { Rp.no with g := fun I x => match x with
    | .Name x _ => decide (I.N[i]? = some x) && (decide (I.sc.names.lookup x = some .local) || (I.top && decide (I.sc.names.lookup x = some .cell)))
    | _ => false }
  | .tt ts => { Rp.no with g := fun I x => match x with
    | .Tuple es _ _ => decide (es.length = ts.len) && (noStar es && (rep M ts).gs I es)
    | _ => false }
  | .tsub o i => { Rp.no with g := fun I x => match x with
    | .Subscript y z _ => !isSl z && ((rep M o).e I y && (rep M i).e I z)
    | _ => false }
  | .rng1 a => { Rp.no with i := fun I x => match x with
    | .Call (.Name x _) [y] [] _ => decide (x = ("range" : Str)) && (glB I.sc x && (!isStar y && (rep M a).e I y))
    | _ => false }
  | .rng2 a b => { Rp.no with i := fun I x => match x with
    | .Call (.Name x _) [y, z] [] _ => decide (x = ("range" : Str)) && (glB I.sc x && (!isStar y && (!isStar z && ((rep M a).e I y && (rep M b).e I z))))
    | _ => false }
end EV
set_option linter.all false
set_option maxRecDepth 100000
set_option maxHeartbeats 4000000
/-! Ev16: what the evaluator computes, the text does. -/
namespace EV
open PySem PySem.Spec PyProof.Rows L2
def bltNames : List Str := ["len", "int", "abs", "sum", "all", "any", "max", "min", "repr", "list", "tuple", "range", "isinstance", "bool", "str", "ValueError"]
structure Sy (M : Nms) (I : Sc) (C : Ct) (F : Cfg) : Prop where
  K : C.X.K = C.Γ.K
  N : C.X.N = I.N
  nd : I.N.Nodup
  sc : C.X.env.scope = I.sc
  calm : C.X.calm = true
  un : C.X.A.units + 90 < cLine
  gd : C.X.A.guards = some []
  fn : I.top = true → ∀ x, C.X.fn x = true
  off : I.flag = false → C.flag = false
  fl : C.flag = true → F.flag = true ∧ F.capd = C.capd
  po : PassesOwn (model C.X.prog C.X.w) C.X.A C.X.env C.X.xe
  px : Passes (CX C.X.prog C.X.w) C.X C.Ex
  glb : ∀ (i : Nat) x v, M.glb[i]? = some x → F.glob[i]? = some v → ∃ V u, C.X.mg x = some u ∧ RelV V u ∧ ∀ φ H W, VR C.Γ φ H W v V
  bl : ∀ x, x ∈ bltNames → C.X.mg x = none
  fns : ∀ (f : Nat) x, M.fns[f]? = some x → ∃ fa, FnC C fa (F.call f) x
  cls : ∀ (c : Nat) x, M.cls[c]? = some x → C.X.mg x = some (.ref (C.Γ.clsA c))
  exf : ∃ D fI cc k, InitF C.X.prog C.X.K C.X.mg D fI cc ∧ Room (k + 1) C.X.A ∧ PySem.W.typeIn C.X.K (.ref fI) = some (.type "function") ∧ ∀ c, ClsF C.X.K D (C.Γ.clsA c) ∧ PySem.W.findIn C.X.K (.ref (C.Γ.clsA c)) "__init__" = some (some (.ref fI))
  exi : ∀ c, ExcC C.X.K (C.Γ.clsA c) ∧ PySem.W.kitOne C.X.K (.ref (C.Γ.clsA c)) (.type "ValueError") = some true
  exs : ∀ c d, PySem.W.kitOne C.X.K (.ref (C.Γ.clsA c)) (.ref (C.Γ.clsA d)) = some (F.sub c d)
  exn : ∀ d, PySem.W.kitOne C.X.K (.type "NoneType") (.ref (C.Γ.clsA d)) = some false
  exr : ∀ c, ClsR C.X.K (C.Γ.clsA c) (F.cnm c)
theorem gl_of {M I C F} (S : Sy M I C F) {x : Str} (h : glB I.sc x = true) : Gl C.X x := by
  show C.X.env.scope.names.lookup x = _
  rw [S.sc]
  unfold glB at h
  split at h
  · assumption
  · cases h
theorem vis_of' {M I C F} (S : Sy M I C F) {x : Str} (h : visB I.sc x = true) : Vis C.X.env.scope x := by rw [S.sc]; exact vis_of h
theorem okN {x : Str} (h : okName x = true) : (x == ("__debug__" : Str)) = false ∧ (x == ("__classdict__" : Str)) = false := by
  unfold okName at h
  simpa using h
structure Sd (M : Nms) (u : T) : Prop where
  e : ∀ I C F, Sy M I C F → ∀ x, (rep M u).e I x = true → PE C.X x (tE C (ev F u).e)
  t : ∀ I C F, Sy M I C F → ∀ x, (rep M u).t I x = true → PT C.X x (tT C (ev F u).t)
  w : ∀ I C F, Sy M I C F → ∀ x, (rep M u).w I x = true → PW C.X x (tT C (ev F u).t)
  a : ∀ I C F, Sy M I C F → ∀ x, (rep M u).a I x = true → PA C.X x (tA C (ev F u).a)
  o : ∀ I C F, Sy M I C F → ∀ x, (rep M u).o I x = true → PO C.X x (tO C (ev F u).o)
  s : ∀ I C F, Sy M I C F → ∀ x, (rep M u).s I x = true → PS C.X x (tS C (ev F u).s)
  ss : ∀ I C F, Sy M I C F → ∀ x, (rep M u).ss I x = true → PSs C.X x (tS C (ev F u).s)
  g : ∀ I C F, Sy M I C F → ∀ x, (rep M u).g I x = true → PG C.X x (tG C u.wr (ev F u).g)
  gs : ∀ I C F, Sy M I C F → ∀ x, (rep M u).gs I x = true → PGs C.X x (tGs C u.wr (ev F u).gs)
  i : ∀ I C F, Sy M I C F → ∀ tg x, (rep M u).i I x = true → PI C.X tg x (tI C (ev F u).i)
  ts : ∀ I C F, Sy M I C F → ∀ x, (rep M u).ts I x = true → PTs C.X x (tT C (ev F u).t)
section
variable {M : Nms} {t : T}
theorem sd_no (h1 : rep M t = Rp.no) : Sd M t := by
  constructor <;> (intros; rename_i h; rw [h1] at h; cases h)
theorem sd_ofE {r : Sc → Expr → Bool} {f : Cfg → En → Hh → Rz PV} (h1 : rep M t = Rp.ofE r) (h2 : ∀ F, ev F t = Ev.ofE (f F)) (h : ∀ I C F, Sy M I C F → ∀ x, r I x = true → PE C.X x (tE C (f F))) : Sd M t where
  e := fun I C F S x hx => by rw [h1] at hx; rw [h2]; exact h I C F S x hx
  t := fun I C F S x hx => by
    rw [h1] at hx; rw [h2]
    have hx : (plainT x && r I x) = true := hx
    rw [Bool.and_eq_true] at hx
    exact st_plain S.K hx.1 (h I C F S x hx.2)
  w := fun I C F S x hx => by rw [h1] at hx; cases hx
  a := fun I C F S x hx => by rw [h1] at hx; cases hx
  o := fun I C F S x hx => by
    rw [h1] at hx; rw [h2]
    cases x with
    | none => cases hx
    | some x => exact so_some (h I C F S x hx)
  s := fun I C F S x hx => by rw [h1] at hx; cases hx
  ss := fun I C F S x hx => by rw [h1] at hx; cases hx
  g := fun I C F S x hx => by rw [h1] at hx; cases hx
  gs := fun I C F S x hx => by rw [h1] at hx; cases hx
  i := fun I C F S tg x hx => by
    rw [h1] at hx; rw [h2]
    have hx : (Rp.ofE.notSet x && r I x) = true := hx
    rw [Bool.and_eq_true] at hx
    exact si_val S.K (h I C F S x hx.2)
  ts := fun I C F S x hx => by
    rw [h1] at hx; rw [h2]
    match x, hx with
    | [c], hx =>
      have hx : (plainT c && r I c) = true := hx
      rw [Bool.and_eq_true] at hx
      exact (pts_one (st_plain S.K hx.1 (h I C F S c hx.2)))
theorem sd_ofT {r rt rw : Sc → Expr → Bool} {f : Cfg → En → Hh → Rz PV} {g : Cfg → En → Hh → Rz Bool} (h1 : rep M t = Rp.ofT r rt rw) (h2 : ∀ F, ev F t = Ev.ofT (f F) (g F)) (h : ∀ I C F, Sy M I C F → ∀ x, r I x = true → PE C.X x (tE C (f F)))
    (ht : ∀ I C F, Sy M I C F → ∀ x, rt I x = true → PT C.X x (tT C (g F))) (hw : ∀ I C F, Sy M I C F → ∀ x, rw I x = true → PW C.X x (tT C (g F))) : Sd M t where
  e := fun I C F S x hx => by rw [h1] at hx; rw [h2]; exact h I C F S x hx
  t := fun I C F S x hx => by rw [h1] at hx; rw [h2]; exact ht I C F S x hx
  w := fun I C F S x hx => by rw [h1] at hx; rw [h2]; exact hw I C F S x hx
  a := fun I C F S x hx => by rw [h1] at hx; cases hx
  o := fun I C F S x hx => by
    rw [h1] at hx; rw [h2]
    cases x with
    | none => cases hx
    | some x => exact so_some (h I C F S x hx)
  s := fun I C F S x hx => by rw [h1] at hx; cases hx
  ss := fun I C F S x hx => by rw [h1] at hx; cases hx
  g := fun I C F S x hx => by rw [h1] at hx; cases hx
  gs := fun I C F S x hx => by rw [h1] at hx; cases hx
  i := fun I C F S tg x hx => by
    rw [h1] at hx; rw [h2]
    have hx : (Rp.ofE.notSet x && r I x) = true := hx
    rw [Bool.and_eq_true] at hx
    exact si_val S.K (h I C F S x hx.2)
  ts := fun I C F S x hx => by
    rw [h1] at hx; rw [h2]
    match x, hx with
    | [c], hx => exact (pts_one (ht I C F S c hx))
theorem sd_ofS {r : Sc → Stmt → Bool} {f : Cfg → En → Hh → Rz Fl} (h1 : rep M t = Rp.ofS r) (h2 : ∀ F, ev F t = Ev.ofS (f F)) (h : ∀ I C F, Sy M I C F → ∀ x, r I x = true → PS C.X x (tS C (f F))) : Sd M t where
  e := fun I C F S x hx => by rw [h1] at hx; cases hx
  t := fun I C F S x hx => by rw [h1] at hx; cases hx
  w := fun I C F S x hx => by rw [h1] at hx; cases hx
  a := fun I C F S x hx => by rw [h1] at hx; cases hx
  o := fun I C F S x hx => by rw [h1] at hx; cases hx
  s := fun I C F S x hx => by rw [h1] at hx; rw [h2]; exact h I C F S x hx
  ss := fun I C F S x hx => by rw [h1] at hx; cases hx
  g := fun I C F S x hx => by rw [h1] at hx; cases hx
  gs := fun I C F S x hx => by rw [h1] at hx; cases hx
  i := fun I C F S tg x hx => by rw [h1] at hx; cases hx
  ts := fun I C F S x hx => by rw [h1] at hx; cases hx
end

section
variable {M : Nms}
theorem sd_var (i : Nat) : Sd M (.var i) := sd_ofE (f := fun _ ρ h => match slot ρ i with
    | some v => .ok v h
    | none => .err) rfl (fun _ => rfl) fun I C F S x hx => by
  split at hx
  · simp only [Bool.and_eq_true, Bool.or_eq_true, decide_eq_true_eq, Bool.not_eq_true'] at hx
    obtain ⟨h1, h2, h3⟩ := hx
    exact se_var (by rw [S.N]; exact h1) (vis_of' S h2) (okN h3).1 (okN h3).2
  · cases hx
theorem sd_cst (c : PV) : Sd M (.cst c) := sd_ofE (f := fun _ _ h => .ok c h) rfl (fun _ => rfl) fun I C F S x hx => by
  split at hx
  · unfold constB at hx
    split at hx
    · exact se_non
    · obtain rfl := eq_of_beq hx; exact se_bl
    · obtain rfl := of_decide_eq_true hx; exact se_int
    · obtain rfl := of_decide_eq_true hx; exact se_str
    · cases hx
  · cases hx
theorem sd_glb (g : Nat) : Sd M (.glb g) := sd_ofE (f := fun F _ h => match F.glob[g]? with
    | some v => .ok v h
    | none => .err) rfl (fun _ => rfl) fun I C F S x hx => by
  split at hx
  · simp only [Bool.and_eq_true, Bool.or_eq_true, decide_eq_true_eq, Bool.not_eq_true'] at hx
    obtain ⟨h1, h2, h3⟩ := hx
    cases e : F.glob[g]? with
    | none =>
      refine ⟨fun pins s σ H Q I ⟨φ, ρ, h, rl, po⟩ => ?_⟩
      exact po.elim
    | some v =>
      obtain ⟨V, u, e1, e2, e3⟩ := S.glb g _ v h1 e
      exact (pe_glob (gl_of S h2) e1 e2 (okN h3).1).imp fun σ H Q ⟨φ, ρ, h, rl, po⟩ => po.val rl.hr (e3 _ _ _)
  · cases hx
theorem sd_tup {es : T} (ih : Sd M es) : Sd M (.tup es) := sd_ofE (f := fun F ρ h => ((ev F es).a ρ h).bnd fun vs h => if vs.length ≤ sizeLine then .ok (.tup vs) h else .err) rfl (fun _ => rfl) fun I C F S x hx => by
  split at hx
  · exact se_tup (ih.a I C F S _ hx)
  · cases hx
theorem sd_lst {es : T} (ih : Sd M es) : Sd M (.lst es) := sd_ofE (f := fun F ρ h => ((ev F es).a ρ h).bnd fun vs h => if vs.length ≤ sizeLine then newL vs h else .err) rfl (fun _ => rfl) fun I C F S x hx => by
  split at hx
  · exact se_lst (ih.a I C F S _ hx)
  · cases hx
theorem sd_dct0 : Sd M .dct0 := sd_ofE (f := fun _ _ h => .ok (.ref h.length) (h ++ [.dct0])) rfl (fun _ => rfl) fun I C F S x hx => by
  split at hx
  · exact se_dct0
  · cases hx
theorem sd_bin {op : Operator} {a b : T} (ia : Sd M a) (ib : Sd M b) : Sd M (.bin op a b) := sd_ofE (f := fun F ρ h => ((ev F a).e ρ h).bnd fun x h => ((ev F b).e ρ h).bnd fun y h => binV op x y h) rfl (fun _ => rfl) fun I C F S x hx => by
  split at hx
  · simp only [Bool.and_eq_true, Bool.or_eq_true, decide_eq_true_eq, Bool.not_eq_true'] at hx
    obtain ⟨rfl, h1, h2⟩ := hx
    exact se_bin S.K (ia.e I C F S _ h1) (ib.e I C F S _ h2)
  · cases hx
theorem sd_neg {a : T} (ia : Sd M a) : Sd M (.neg a) := sd_ofE (f := fun F ρ h => ((ev F a).e ρ h).bnd fun x h => match x with
    | .int i => .ok (.int (-i)) h
    | _ => .err) rfl (fun _ => rfl) fun I C F S x hx => by
  split at hx
  · exact se_neg (ia.e I C F S _ hx)
  · cases hx
theorem sd_nt {a : T} (ia : Sd M a) : Sd M (.nt a) := sd_ofT (f := fun F ρ h => ((ev F a).e ρ h).bnd fun x h => match x with
      | .bl b => .ok (.bl (!b)) h
      | _ => .err) (g := fun F ρ h => ((ev F a).t ρ h).bnd fun b h => .ok (!b) h) rfl (fun _ => rfl) (fun I C F S x hx => by
  split at hx
  · exact se_not (ia.e I C F S _ hx)
  · cases hx) (fun I C F S x hx => by
  split at hx
  · exact st_not (ia.t I C F S _ hx)
  · cases hx) (fun I C F S x hx => by cases hx)
theorem one_and {C : Ct} {b : Expr} {p : Pos} {f} (h : PE C.X b (tE C f)) : PE C.X (.BoolOp .And [b] p) (tE C f) := pe_one h
theorem sd_an {a b : T} (ia : Sd M a) (ib : Sd M b) : Sd M (.an a b) := by
  have W : ∀ I C F, Sy M I C F → ∀ x, (match x with
      | .BoolOp .And [y, z] _ => (rep M a).t I y && (rep M b).t I z
      | .BoolOp .And (y :: z :: u :: r) p => (rep M a).t I y && (rep M b).w I (.BoolOp .And (z :: u :: r) p)
      | _ => false) = true → PW C.X x (tT C fun ρ h => ((ev F a).t ρ h).bnd fun x h => if x = true then (ev F b).t ρ h else .ok false h) := fun I C F S x hx => by
    split at hx
    · simp only [Bool.and_eq_true, Bool.or_eq_true, decide_eq_true_eq, Bool.not_eq_true'] at hx
      exact sw_and (ia.t I C F S _ hx.1) (pw_and1 (ib.t I C F S _ hx.2))
    · simp only [Bool.and_eq_true, Bool.or_eq_true, decide_eq_true_eq, Bool.not_eq_true'] at hx
      exact sw_and (ia.t I C F S _ hx.1) (ib.w I C F S _ hx.2)
    · cases hx
  refine sd_ofT (f := fun F ρ h => ((ev F a).e ρ h).bnd fun x h => match x with
      | .bl true => (ev F b).e ρ h
      | .bl false => .ok (.bl false) h
      | _ => .err) (g := fun F ρ h => ((ev F a).t ρ h).bnd fun x h => if x = true then (ev F b).t ρ h else .ok false h) rfl (fun _ => rfl) (fun I C F S x hx => ?_) (fun I C F S x hx => (W I C F S x hx).pt) W
  split at hx
  · simp only [Bool.and_eq_true, Bool.or_eq_true, decide_eq_true_eq, Bool.not_eq_true'] at hx
    exact se_and (ia.e I C F S _ hx.1) (pe_one (ib.e I C F S _ hx.2))
  · simp only [Bool.and_eq_true, Bool.or_eq_true, decide_eq_true_eq, Bool.not_eq_true'] at hx
    exact se_and (ia.e I C F S _ hx.1) (ib.e I C F S _ hx.2)
  · cases hx
theorem sd_oo {a b : T} (ia : Sd M a) (ib : Sd M b) : Sd M (.oo a b) := by
  have W : ∀ I C F, Sy M I C F → ∀ x, (match x with
      | .BoolOp .Or [y, z] _ => (rep M a).t I y && (rep M b).t I z
      | .BoolOp .Or (y :: z :: u :: r) p => (rep M a).t I y && (rep M b).w I (.BoolOp .Or (z :: u :: r) p)
      | _ => false) = true → PW C.X x (tT C fun ρ h => ((ev F a).t ρ h).bnd fun x h => if x = true then .ok true h else (ev F b).t ρ h) := fun I C F S x hx => by
    split at hx
    · simp only [Bool.and_eq_true, Bool.or_eq_true, decide_eq_true_eq, Bool.not_eq_true'] at hx
      exact sw_or (ia.t I C F S _ hx.1) (pw_or1 (ib.t I C F S _ hx.2))
    · simp only [Bool.and_eq_true, Bool.or_eq_true, decide_eq_true_eq, Bool.not_eq_true'] at hx
      exact sw_or (ia.t I C F S _ hx.1) (ib.w I C F S _ hx.2)
    · cases hx
  refine sd_ofT (f := fun F ρ h => ((ev F a).e ρ h).bnd fun x h => match x with
      | .bl false => (ev F b).e ρ h
      | .bl true => .ok (.bl true) h
      | _ => .err) (g := fun F ρ h => ((ev F a).t ρ h).bnd fun x h => if x = true then .ok true h else (ev F b).t ρ h) rfl (fun _ => rfl) (fun I C F S x hx => ?_) (fun I C F S x hx => (W I C F S x hx).pt) W
  split at hx
  · simp only [Bool.and_eq_true, Bool.or_eq_true, decide_eq_true_eq, Bool.not_eq_true'] at hx
    exact se_or (ia.e I C F S _ hx.1) (pe_one (ib.e I C F S _ hx.2))
  · simp only [Bool.and_eq_true, Bool.or_eq_true, decide_eq_true_eq, Bool.not_eq_true'] at hx
    exact se_or (ia.e I C F S _ hx.1) (ib.e I C F S _ hx.2)
  · cases hx
theorem sd_cmp {op : CmpOp} {a b : T} (ia : Sd M a) (ib : Sd M b) : Sd M (.cmp op a b) := sd_ofT (f := fun F ρ h => ((ev F a).e ρ h).bnd fun x h => ((ev F b).e ρ h).bnd fun y h => cmpV op x y h)
    (g := fun F ρ h => (((ev F a).e ρ h).bnd fun x h => ((ev F b).e ρ h).bnd fun y h => cmpV op x y h).bnd truV) rfl (fun _ => rfl) (fun I C F S x hx => by
  split at hx
  · simp only [Bool.and_eq_true, Bool.or_eq_true, decide_eq_true_eq, Bool.not_eq_true'] at hx
    obtain ⟨rfl, h0, h1, h2⟩ := hx
    exact se_cmp S.K (by have := S.un; omega) h0 (ia.e I C F S _ h1) (ib.e I C F S _ h2)
  · cases hx) (fun I C F S x hx => by
  split at hx
  · simp only [Bool.and_eq_true, Bool.or_eq_true, decide_eq_true_eq, Bool.not_eq_true'] at hx
    obtain ⟨rfl, h0, h1, h2⟩ := hx
    exact st_cmp S.K (by have := S.un; omega) h0 (ia.e I C F S _ h1) (ib.e I C F S _ h2)
  · cases hx) (fun I C F S x hx => by cases hx)
theorem sd_chn {op op' : CmpOp} {a b c : T} (ia : Sd M a) (ib : Sd M b) (ic : Sd M c) : Sd M (.chn op op' a b c) := sd_ofE (f := fun F ρ h => ((ev F a).e ρ h).bnd fun x h => ((ev F b).e ρ h).bnd fun y h => (cmpV op x y h).bnd fun k h => match k with
    | .bl true => ((ev F c).e ρ h).bnd fun z h => cmpV op' y z h
    | .bl false => .ok (.bl false) h
    | _ => .err) rfl (fun _ => rfl) fun I C F S x hx => by
  split at hx
  · simp only [Bool.and_eq_true, Bool.or_eq_true, decide_eq_true_eq, Bool.not_eq_true'] at hx
    obtain ⟨rfl, rfl, h0, h1, h2, h3⟩ := hx
    exact se_chn S.K (by have := S.un; omega) h0 (ia.e I C F S _ h1) (ib.e I C F S _ h2) (ic.e I C F S _ h3)
  · cases hx
theorem sd_ife {c a b : T} (ic : Sd M c) (ia : Sd M a) (ib : Sd M b) : Sd M (.ife c a b) := sd_ofE (f := fun F ρ h => ((ev F c).t ρ h).bnd fun k h => if k = true then (ev F a).e ρ h else (ev F b).e ρ h) rfl (fun _ => rfl) fun I C F S x hx => by
  split at hx
  · simp only [Bool.and_eq_true, Bool.or_eq_true, decide_eq_true_eq, Bool.not_eq_true'] at hx
    exact se_ife (ic.t I C F S _ hx.1) (ia.e I C F S _ hx.2.1) (ib.e I C F S _ hx.2.2)
  · cases hx
theorem notSl : ∀ {b : Expr}, isSl b = false → (match b with | .Slice .. => false | _ => true) = true := by
  intro b h
  cases b <;> first | rfl | cases h
theorem sd_idx {a b : T} (ia : Sd M a) (ib : Sd M b) : Sd M (.idx a b) := sd_ofE (f := fun F ρ h => ((ev F a).e ρ h).bnd fun x h => ((ev F b).e ρ h).bnd fun y h => idxV x y h) rfl (fun _ => rfl) fun I C F S x hx => by
  split at hx
  · simp only [Bool.and_eq_true, Bool.or_eq_true, decide_eq_true_eq, Bool.not_eq_true'] at hx
    exact se_idx S.K (notSl hx.1) (ia.e I C F S _ hx.2.1) (ib.e I C F S _ hx.2.2)
  · cases hx
theorem sd_slc {a l u : T} (ia : Sd M a) (il : Sd M l) (iu : Sd M u) : Sd M (.slc a l u) := sd_ofE (f := fun F ρ h => ((ev F a).e ρ h).bnd fun x h => ((ev F l).o ρ h).bnd fun y h => ((ev F u).o ρ h).bnd fun z h => slcV x y z h) rfl (fun _ => rfl) fun I C F S x hx => by
  split at hx
  · simp only [Bool.and_eq_true, Bool.or_eq_true, decide_eq_true_eq, Bool.not_eq_true'] at hx
    exact se_slc S.K (ia.e I C F S _ hx.1) (il.o I C F S _ hx.2.1) (iu.o I C F S _ hx.2.2)
  · cases hx

theorem base_of : ∀ {o : Expr} (f : Str) (env : Env), plainBase o = true → attributeBase o f env (eval o env) = eval o env := by
  intro o f env h
  unfold attributeBase
  cases o <;> try rfl
  rename_i fn args kws p
  cases args with
  | nil =>
    cases kws with
    | nil => cases h
    | cons k r => cases fn <;> rfl
  | cons a r => cases fn <;> rfl
theorem sd_none : Sd M .none where
  e := fun I C F S x hx => by cases hx
  t := fun I C F S x hx => by cases hx
  w := fun I C F S x hx => by cases hx
  a := fun I C F S x hx => by cases hx
  o := fun I C F S x hx => by
    cases x with
    | none => exact so_none
    | some x => cases hx
  s := fun I C F S x hx => by cases hx
  ss := fun I C F S x hx => by cases hx
  g := fun I C F S x hx => by cases hx
  gs := fun I C F S x hx => by cases hx
  i := fun I C F S tg x hx => by cases hx
  ts := fun I C F S x hx => by cases hx
theorem sd_call {f : Nat} {args : T} (ia : Sd M args) : Sd M (.call f args) := sd_ofE (f := fun F ρ h => ((ev F args).a ρ h).bnd fun vs h => F.call f vs h) rfl (fun _ => rfl) fun I C F S x hx => by
  split at hx
  · simp only [Bool.and_eq_true, Bool.or_eq_true, decide_eq_true_eq, Bool.not_eq_true'] at hx
    obtain ⟨h1, h2, h3, h4, h5, h6, h7⟩ := hx
    obtain ⟨fa, K⟩ := S.fns f _ h1
    rename_i es _
    cases es with
    | nil => cases h6
    | cons e es => exact se_call (S.off h4) K S.gd (gl_of S h2) S.px h5 (ia.a I C F S _ h7) (okN h3).1
  · cases hx
theorem bl_mem {b : BI} (h : Blt b = true) : b.str ∈ bltNames := by cases b <;> first | decide | cases h
theorem bl_val {b : BI} (h : Blt b = true) : ∃ v, b.val = some v := by cases b <;> first | exact ⟨_, rfl⟩ | cases h
theorem sd_blt {b : BI} {args : T} (ia : Sd M args) : Sd M (.blt b args) := sd_ofE (f := fun F ρ h => ((ev F args).a ρ h).bnd fun vs h => bltV b vs h) rfl (fun _ => rfl) fun I C F S x hx => by
  split at hx
  · simp only [Bool.and_eq_true, Bool.or_eq_true, decide_eq_true_eq, Bool.not_eq_true'] at hx
    obtain ⟨h1, h2, h3, h4, h5⟩ := hx
    subst h2
    obtain ⟨v, hv⟩ := bl_val h1
    have h4' := h4
    unfold noStar at h4'
    rw [List.all_cons, Bool.and_eq_true] at h4'
    exact se_blt S.K S.calm (by have := S.un; omega) S.gd hv (gl_of S h3) (S.bl _ (bl_mem h1)) (by simpa using h4'.1) h4'.2 (ia.a I C F S _ h5)
  · cases hx
theorem sd_lrg {a : T} (ia : Sd M a) : Sd M (.lrg a) := sd_ofE (f := fun F ρ h => ((ev F a).e ρ h).bnd fun x h => lrngV x h) rfl (fun _ => rfl) fun I C F S x hx => by
  split at hx
  · simp only [Bool.and_eq_true, Bool.or_eq_true, decide_eq_true_eq, Bool.not_eq_true'] at hx
    obtain ⟨rfl, rfl, h3, h4, h5, h6⟩ := hx
    exact se_lrng S.calm (gl_of S h3) (S.bl _ (by decide)) (gl_of S h4) (S.bl _ (by decide)) h5 (ia.e I C F S _ h6)
  · cases hx
theorem sd_isi {ty : Ty} {a : T} (ia : Sd M a) : Sd M (.isi ty a) := sd_ofE (f := fun F ρ h => ((ev F a).e ρ h).bnd fun x h => match isV ty x h with
    | some b => .ok (.bl b) h
    | none => .err) rfl (fun _ => rfl) fun I C F S x hx => by
  split at hx
  · simp only [Bool.and_eq_true, decide_eq_true_eq, Bool.not_eq_true'] at hx
    obtain ⟨rfl, rfl, h1, h2, h3, h4⟩ := hx
    exact se_isi S.K (fun c => (S.exi c).1) (fun c => (S.exi c).2) (gl_of S h1) (S.bl _ (by decide)) (gl_of S h2) (S.bl _ (by cases ty <;> decide)) h3 (ia.e I C F S _ h4)
  · cases hx
theorem sd_isx {c : Nat} {a : T} (ia : Sd M a) : Sd M (.isx c a) := sd_ofE (f := fun F ρ h => ((ev F a).e ρ h).bnd fun x h => match x with
    | .exc _ d _ => .ok (.bl (F.sub d c)) h
    | .non => .ok (.bl false) h
    | _ => .err) rfl (fun _ => rfl) fun I C F S x hx => by
  split at hx
  · simp only [Bool.and_eq_true, decide_eq_true_eq, Bool.not_eq_true'] at hx
    obtain ⟨rfl, h0, h1, h2, h3, h4, h5⟩ := hx
    exact se_isx (fun c => (S.exi c).1) (fun d => S.exs d c) (S.exn c) (gl_of S h1) (S.bl _ (by decide)) (gl_of S h2) (S.cls c _ h0) (okN h3).1 h4 (ia.e I C F S _ h5)
  · cases hx
theorem sd_exn {c : Nat} {a : T} (ia : Sd M a) : Sd M (.exn c a) := sd_ofE (f := fun F ρ h => ((ev F a).e ρ h).bnd fun x h => .ok (.exc true c x) h) rfl (fun _ => rfl) fun I C F S x hx => by
  split at hx
  · simp only [Bool.and_eq_true, decide_eq_true_eq, Bool.not_eq_true'] at hx
    obtain ⟨h0, h1, h2, h3, h4⟩ := hx
    obtain ⟨D, fI, cc, k, F1, F2, F3, F4⟩ := S.exf
    exact se_exn (F0 := F) F1 (F4 c).1 (F4 c).2 F3 F2 (gl_of S h1) (S.cls c _ h0) (okN h2).1 h3 (ia.e I C F S _ h4)
  · cases hx
theorem sd_attr {a : T} (ia : Sd M a) : Sd M (.attr a) := sd_ofE (f := fun F ρ h => ((ev F a).e ρ h).bnd fun x h => match x with
    | .exc _ _ v => .ok v h
    | _ => .err) rfl (fun _ => rfl) fun I C F S x hx => by
  split at hx
  · simp only [Bool.and_eq_true, decide_eq_true_eq, Bool.not_eq_true'] at hx
    obtain ⟨rfl, h1, h2⟩ := hx
    obtain ⟨D, fI, cc, k, F1, F2, F3, F4⟩ := S.exf
    exact se_attr (fun c => (S.exi c).1) (fun c => (F4 c).1.val) (base_of _ _ h1) (ia.e I C F S _ h2)
  · cases hx
theorem sd_rpx {a : T} (ia : Sd M a) : Sd M (.rpx a) := sd_ofE (f := fun F ρ h => ((ev F a).e ρ h).bnd fun x h => match x with
    | .exc true c v => match dataOf h v with
      | some d => if dictOk d = true ∧ d.showable = true ∧ d.depth ≤ 60 ∧ (F.cnm c).length + d.shown.length + 2 ≤ sizeLine then .ok (.str (F.cnm c ++ Str.ofString "(" ++ d.shown ++ Str.ofString ")")) h else .err
      | none => .err
    | _ => reprV x h) rfl (fun _ => rfl) fun I C F S x hx => by
  split at hx
  · simp only [Bool.and_eq_true, decide_eq_true_eq, Bool.not_eq_true'] at hx
    obtain ⟨rfl, h1, h2, h3⟩ := hx
    exact se_rpx S.K S.calm S.un S.gd S.exr (gl_of S h1) (S.bl _ (by decide)) h2 (ia.e I C F S _ h3)
  · cases hx
end
end EV
set_option linter.all false
set_option maxRecDepth 100000
set_option maxHeartbeats 4000000
/-! Ev17: .. statements, and all together. -/
namespace EV
open PySem PySem.Spec PyProof.Rows L2
section
variable {M : Nms}
theorem sd_nil : Sd M .nil where
  e := fun I C F S x hx => by cases hx
  t := fun I C F S x hx => by cases hx
  w := fun I C F S x hx => by cases hx
  a := fun I C F S x hx => by
    cases x with
    | nil => exact sa_nil
    | cons y r => cases hx
  o := fun I C F S x hx => by cases hx
  s := fun I C F S x hx => by cases hx
  ss := fun I C F S x hx => by
    cases x with
    | nil => exact ss_nil
    | cons y r => cases hx
  g := fun I C F S x hx => by cases hx
  gs := fun I C F S x hx => by
    cases x with
    | nil => exact sgs_nil
    | cons y r => cases hx
  i := fun I C F S tg x hx => by cases hx
  ts := fun I C F S x hx => by
    cases x with
    | nil => exact pts_nil.imp fun σ H Q ⟨φ, ρ, h, rl, po⟩ => po.ok' rl.hr
    | cons y r => cases hx
theorem sd_cons {e r : T} (ie : Sd M e) (ir : Sd M r) : Sd M (.cons e r) where
  e := fun I C F S x hx => by cases hx
  t := fun I C F S x hx => by cases hx
  w := fun I C F S x hx => by cases hx
  a := fun I C F S x hx => by
    cases x with
    | nil => cases hx
    | cons y z =>
      have hx : (!isStar y && ((rep M e).e I y && (rep M r).a I z)) = true := hx
      simp only [Bool.and_eq_true, Bool.not_eq_true'] at hx
      exact sa_cons hx.1 (ie.e I C F S _ hx.2.1) (ir.a I C F S _ hx.2.2)
  o := fun I C F S x hx => by cases hx
  s := fun I C F S x hx => by cases hx
  ss := fun I C F S x hx => by
    have gen : ∀ x, (match x with
      | y :: z => (rep M e).s I y && (rep M r).ss I z
      | [] => false) = true → PSs C.X x (tS C (ev F (.cons e r)).s) := fun x hx => by
      cases x with
      | nil => cases hx
      | cons y z =>
        simp only [Bool.and_eq_true] at hx
        exact ss_cons (ie.s I C F S _ hx.1) (ir.ss I C F S _ hx.2)
    cases e
    case kil i => exact ss_kil (ir.ss I C F S x hx)
    all_goals exact gen x hx
  g := fun I C F S x hx => by cases hx
  gs := fun I C F S x hx => by
    cases x with
    | nil => cases hx
    | cons y z =>
      have hx : (!isStar y && ((rep M e).g I y && (rep M r).gs I z)) = true := hx
      simp only [Bool.and_eq_true, Bool.not_eq_true'] at hx
      exact sgs_cons (F := F) S.fl hx.1 (ie.g I C F S _ hx.2.1) (ir.gs I C F S _ hx.2.2)
  i := fun I C F S tg x hx => by cases hx
  ts := fun I C F S x hx => by cases hx
theorem sd_asg {tg e : T} (it : Sd M tg) (ie : Sd M e) : Sd M (.asg tg e) := sd_ofS (f := fun F ρ h => ((ev F e).e ρ h).bnd fun v h => ((ev F tg).g v ρ h).bnd fun ρ h => .ok (.nx ρ) h) rfl (fun _ => rfl) fun I C F S x hx => by
  split at hx
  · simp only [Bool.and_eq_true, Bool.or_eq_true, decide_eq_true_eq, Bool.not_eq_true'] at hx
    obtain ⟨h1, h2, h3, h4, h5⟩ := hx
    refine ss_asg h1 (ie.e I C F S _ h4) (it.g I C F S _ h5) (notComp_sw ?_) ?_
    · rename_i v _
      cases v <;> first | rfl | cases h2
    · rcases h3 with h3 | h3
      · refine notTup_sw ?_
        rename_i v _
        cases v <;> first | rfl | cases h3
      · refine notTup_sw2 ?_
        rename_i t' _ _
        cases t' <;> first | rfl | cases h3
  · cases hx
theorem sd_iff {c a b : T} (ic : Sd M c) (ia : Sd M a) (ib : Sd M b) : Sd M (.iff c a b) := sd_ofS (f := fun F ρ h => ((ev F c).t ρ h).bnd fun k h => if k = true then (ev F a).s ρ h else (ev F b).s ρ h) rfl (fun _ => rfl) fun I C F S x hx => by
  split at hx
  · simp only [Bool.and_eq_true] at hx
    exact ss_if (ic.t I C F S _ hx.1) (ia.ss I C F S _ hx.2.1) (ib.ss I C F S _ hx.2.2)
  · cases hx
theorem sd_whl {c b : T} (ic : Sd M c) (ib : Sd M b) : Sd M (.whl c b) := sd_ofS (f := fun F ρ h => whileL (ev F c).t (ev F b).s F.wf ρ h) rfl (fun _ => rfl) fun I C F S x hx => by
  split at hx
  · simp only [Bool.and_eq_true] at hx
    exact ss_whl S.po (ic.t I C F S _ hx.1) (ib.ss I C F S _ hx.2)
  · cases hx
theorem fold_of : ∀ {e : Expr} {env : Env}, Rp.ofE.notSet e = true → ∀ x, foldedSetIterable e env x = pure x := by
  intro e env h x
  cases e <;> first | rfl | cases h
theorem sd_fo {tg it b : T} (ig : Sd M tg) (ii : Sd M it) (ib : Sd M b) : Sd M (.fo tg it b) := sd_ofS (f := fun F ρ h => ((ev F it).i ρ h).bnd fun it h => if (!F.flag || it.noClo) = true then forL (ev F tg).g (ev F b).s it F.wf 0 ρ h else .err) rfl (fun _ => rfl) fun I C F S x hx => by
  split at hx
  · simp only [Bool.and_eq_true] at hx
    obtain ⟨h1, h2, h3, h4⟩ := hx
    exact ss_for (F := F) S.fl S.po S.calm (ii.i I C F S _ _ h3) (ig.g I C F S _ h2) (ib.ss I C F S _ h4) (fold_of h1)
  · cases hx
theorem sd_ret {e : T} (ie : Sd M e) : Sd M (.ret e) := sd_ofS (f := fun F ρ h => ((ev F e).e ρ h).bnd fun v h => retS F v h) rfl (fun _ => rfl) fun I C F S x hx => by
  split at hx
  · exact ss_ret S.fl (ie.e I C F S _ hx)
  · cases hx
theorem sd_retn : Sd M .retn := sd_ofS (f := fun F _ h => retS F .non h) rfl (fun _ => rfl) fun I C F S x hx => by
  split at hx
  · exact ss_retN S.fl
  · cases hx
theorem sd_xpr {e : T} (ie : Sd M e) : Sd M (.xpr e) := sd_ofS (f := fun F ρ h => ((ev F e).e ρ h).bnd fun _ h => .ok (.nx ρ) h) rfl (fun _ => rfl) fun I C F S x hx => by
  split at hx
  · simp only [Bool.and_eq_true, Bool.not_eq_true'] at hx
    refine ss_xpr (notComp_sw ?_) (ie.e I C F S _ hx.2)
    rename_i y _
    have h2 := hx.1
    cases y <;> first | rfl | cases h2
  · cases hx
theorem sd_app {l e : T} (il : Sd M l) (ie : Sd M e) : Sd M (.app l e) := sd_ofS (f := fun F ρ h => ((ev F l).e ρ h).bnd fun x h => match x with
    | .ref n => match isFl h n with
      | some _ => ((ev F e).e ρ h).bnd fun y h => match isFl h n with
        | some xs => if xs.length < sizeLine then .ok (.nx ρ) (h.set n (.lst false (xs ++ [y]))) else .err
        | none => .err
      | none => .err
    | _ => .err) rfl (fun _ => rfl) fun I C F S x hx => by
  split at hx
  · simp only [Bool.and_eq_true, decide_eq_true_eq, Bool.not_eq_true'] at hx
    obtain ⟨rfl, h1, h2, h3, h4, h5⟩ := hx
    exact ss_app S.K h3 (il.e I C F S _ h4) (ie.e I C F S _ h5) (base_of _ _ h2) h1
  · cases hx
theorem sd_ext {l e : T} (il : Sd M l) (ie : Sd M e) : Sd M (.ext l e) := sd_ofS (f := fun F ρ h => ((ev F l).e ρ h).bnd fun x h => match x with
    | .ref n => match isFl h n with
      | some _ => ((ev F e).e ρ h).bnd fun y h => match y with
        | .ref m => match isFl h n, isFl h m with
          | some xs, some ys => if xs.length + ys.length ≤ sizeLine then .ok (.nx ρ) (h.set n (.lst false (xs ++ ys))) else .err
          | _, _ => .err
        | _ => .err
      | none => .err
    | _ => .err) rfl (fun _ => rfl) fun I C F S x hx => by
  split at hx
  · simp only [Bool.and_eq_true, decide_eq_true_eq, Bool.not_eq_true'] at hx
    obtain ⟨rfl, h1, h2, h3, h4, h5⟩ := hx
    exact ss_ext S.K h3 (il.e I C F S _ h4) (ie.e I C F S _ h5) (base_of _ _ h2) h1
  · cases hx
theorem sd_brk : Sd M .brk := sd_ofS (f := fun _ ρ h => .ok (.bk ρ) h) rfl (fun _ => rfl) fun I C F S x hx => by
  split at hx
  · exact ss_brk
  · cases hx
theorem sd_cnt : Sd M .cnt := sd_ofS (f := fun _ ρ h => .ok (.ct ρ) h) rfl (fun _ => rfl) fun I C F S x hx => by
  split at hx
  · exact ss_cnt
  · cases hx
theorem sd_pas : Sd M .pas := sd_ofS (f := fun _ ρ h => .ok (.nx ρ) h) rfl (fun _ => rfl) fun I C F S x hx => by
  split at hx
  · exact ss_pas
  · cases hx
theorem sd_g {t : T} {r : Sc → Expr → Bool} (h1 : rep M t = { Rp.no with g := r }) (h : ∀ I C F, Sy M I C F → ∀ x, r I x = true → PG C.X x (tG C t.wr (ev F t).g)) : Sd M t where
  e := fun I C F S x hx => by rw [h1] at hx; cases hx
  t := fun I C F S x hx => by rw [h1] at hx; cases hx
  w := fun I C F S x hx => by rw [h1] at hx; cases hx
  a := fun I C F S x hx => by rw [h1] at hx; cases hx
  o := fun I C F S x hx => by rw [h1] at hx; cases hx
  s := fun I C F S x hx => by rw [h1] at hx; cases hx
  ss := fun I C F S x hx => by rw [h1] at hx; cases hx
  g := fun I C F S x hx => by rw [h1] at hx; exact h I C F S x hx
  gs := fun I C F S x hx => by rw [h1] at hx; cases hx
  i := fun I C F S tg x hx => by rw [h1] at hx; cases hx
  ts := fun I C F S x hx => by rw [h1] at hx; cases hx
theorem sd_i {t : T} {r : Sc → Expr → Bool} (h1 : rep M t = { Rp.no with i := r }) (h : ∀ I C F, Sy M I C F → ∀ tg x, r I x = true → PI C.X tg x (tI C (ev F t).i)) : Sd M t where
  e := fun I C F S x hx => by rw [h1] at hx; cases hx
  t := fun I C F S x hx => by rw [h1] at hx; cases hx
  w := fun I C F S x hx => by rw [h1] at hx; cases hx
  a := fun I C F S x hx => by rw [h1] at hx; cases hx
  o := fun I C F S x hx => by rw [h1] at hx; cases hx
  s := fun I C F S x hx => by rw [h1] at hx; cases hx
  ss := fun I C F S x hx => by rw [h1] at hx; cases hx
  g := fun I C F S x hx => by rw [h1] at hx; cases hx
  gs := fun I C F S x hx => by rw [h1] at hx; cases hx
  i := fun I C F S tg x hx => by rw [h1] at hx; exact h I C F S tg x hx
  ts := fun I C F S x hx => by rw [h1] at hx; cases hx
theorem sd_tn {i : Nat} : Sd M (.tn i) := sd_g rfl fun I C F S x hx => by
  split at hx
  · simp only [Bool.and_eq_true, Bool.or_eq_true, decide_eq_true_eq] at hx
    obtain ⟨h1, h2⟩ := hx
    have sl : ∀ {y k}, I.sc.names.lookup y = some k → C.X.env.scope.names.lookup y = some k := fun {y k} e => by rw [S.sc]; exact e
    refine sg_tn (F := F) (by rw [S.N]; exact S.nd) S.fl (by rw [S.N]; exact h1) ?_ ?_
    · rcases h2 with h2 | ⟨_, h2⟩
      · exact .inl (sl h2)
      · exact .inr (sl h2)
    · rcases h2 with h2 | ⟨h2, _⟩
      · exact .inr (sl h2)
      · exact .inl (S.fn h2 _)
  · cases hx
theorem sd_tt {ts : T} (it : Sd M ts) : Sd M (.tt ts) := sd_g rfl fun I C F S x hx => by
  split at hx
  · simp only [Bool.and_eq_true, decide_eq_true_eq] at hx
    exact sg_tt S.K S.calm hx.1 hx.2.1 (it.gs I C F S _ hx.2.2)
  · cases hx
theorem sd_tsub {o i : T} (io : Sd M o) (ii : Sd M i) : Sd M (.tsub o i) := sd_g rfl fun I C F S x hx => by
  split at hx
  · simp only [Bool.and_eq_true, Bool.not_eq_true'] at hx
    exact sg_tsub (notSl hx.1) (io.e I C F S _ hx.2.1) (ii.e I C F S _ hx.2.2)
  · cases hx
theorem sd_rng1 {a : T} (ia : Sd M a) : Sd M (.rng1 a) := sd_i rfl fun I C F S tg x hx => by
  split at hx
  · simp only [Bool.and_eq_true, decide_eq_true_eq, Bool.not_eq_true'] at hx
    obtain ⟨rfl, h1, h2, h3⟩ := hx
    exact si_rng1 (gl_of S h1) (S.bl _ (by decide)) h2 (ia.e I C F S _ h3)
  · cases hx
theorem sd_rng2 {a b : T} (ia : Sd M a) (ib : Sd M b) : Sd M (.rng2 a b) := sd_i rfl fun I C F S tg x hx => by
  split at hx
  · simp only [Bool.and_eq_true, decide_eq_true_eq, Bool.not_eq_true'] at hx
    obtain ⟨rfl, h1, h2, h3, h4, h5⟩ := hx
    exact si_rng2 (gl_of S h1) (S.bl _ (by decide)) h2 h3 (ia.e I C F S _ h4) (ib.e I C F S _ h5)
  · cases hx
/-- within a comprehension's block -/
theorem Sy.blk {I C F} (S : Sy M I C F) (s : Shared) (H : Hp) (scope : Scope) (c : Addr) (cl : List (Str × Addr)) (fp : List Addr) :
    Sy M ⟨relSc scope I.sc, I.N, false, false⟩ (C.blk (C.X.blk s H scope (compEnvC scope cl c C.X.env) fp)) F where
  K := S.K
  N := S.N
  nd := S.nd
  sc := by
    show relS scope C.X.env.scope = relS scope I.sc
    rw [S.sc]
  calm := S.calm
  un := S.un
  gd := S.gd
  fn := fun h => by cases h
  off := fun _ => rfl
  fl := fun h => by cases h
  po := PassesOwn.never
  px := fun pins σ H s e s' I z => by
    obtain ⟨a, B, H', cls, d, _, _, _, _, _, _, _, z⟩ := z
    exact z.2.elim
  glb := S.glb
  bl := S.bl
  fns := fun f x e => by
    obtain ⟨fa, K⟩ := S.fns f x e
    exact ⟨fa, K.fn, K.mg, K.kp⟩
  cls := S.cls
  exf := S.exf
  exi := S.exi
  exs := S.exs
  exn := S.exn
  exr := S.exr
theorem blk_ok {N : List Str} {sc scope : Scope} {own : List Nat} (h : blkB N sc scope own = true) : ∃ o : List (Str × Nat), o.map (·.2) = own ∧ BlkOk N sc scope o := by
  unfold blkB at h
  simp only [Bool.and_eq_true, Bool.or_eq_true, List.all_eq_true, List.any_eq_true, decide_eq_true_eq, Bool.not_eq_true'] at h
  obtain ⟨⟨⟨⟨h1, h2⟩, h3⟩, h4⟩, h5⟩ := h
  refine ⟨own.map fun i => ((N[i]?).getD "", i), by simp [List.map_map, Function.comp_def], h1, h2, fun p hp => ?_, fun y hy e => ?_, fun y hy e => ?_⟩
  · obtain ⟨i, hi, rfl⟩ := List.mem_map.mp hp
    obtain ⟨x, hx⟩ := Option.isSome_iff_exists.mp (h5 i hi)
    show N[i]? = some ((N[i]?).getD "")
    rw [hx]
    rfl
  · rcases h3 y hy with (z | z) | z
    · exact absurd e z
    · exact .inl z
    · exact .inr z
  · rcases h4 y hy with (⟨z1, z2⟩ | ⟨i, hi, z⟩) | z
    · rcases e with e | e
      · exact absurd e z1
      · exact absurd e z2
    · refine .inl (List.mem_map.mpr ⟨((N[i]?).getD "", i), List.mem_map.mpr ⟨i, hi, rfl⟩, ?_⟩)
      rw [z]
      rfl
    · refine .inr fun hm => ?_
      have := List.contains_iff_mem.mpr hm
      rw [z] at this
      cases this
theorem sd_lc {own : List Nat} {tg it tst el : T} (ig : Sd M tg) (ii : Sd M it) (itt : Sd M tst) (ie : Sd M el) : Sd M (.lc own tg it tst el) := sd_ofE (f := fun F ρ h => ((ev F it).i ρ h).bnd fun it h => if (!F.flag || it.noClo) = true then
      (compL (ev F tg).g (ev F tst).t (ev F el).e it (wipeE (if F.flag then killE ρ else ρ) own) h.length F.wf 0 ((if F.flag then killH h else h) ++ [.lst false []])).nox else .err) rfl (fun _ => rfl) fun I C F S x hx => by
  split at hx
  · simp only [Bool.and_eq_true, List.all_eq_true] at hx
    obtain ⟨h1, h2, h3, h4, h5, h6, h7⟩ := hx
    obtain ⟨o, ho, ok⟩ := blk_ok h1
    subst ho
    exact se_lcE (F := F) S.fl S.calm (by rw [S.N]; exact S.nd) (ii.i I C F S _ _ h4) (by rw [S.N, S.sc]; exact ok) (fun i hi => List.contains_iff_mem.mp (h2 i hi)) (fun s H c cl fp => ig.g _ _ F (S.blk s H _ c cl fp) _ h5) (fun s H c cl fp => itt.ts _ _ F (S.blk s H _ c cl fp) _ h6) (fun s H c cl fp => ie.e _ _ F (S.blk s H _ c cl fp) _ h7) (fold_of h3)
  · cases hx
/-- ALL: the IR that rep finds right does what the evaluator computes -/
theorem sound (t : T) : Sd M t := by
  induction t with
  | var i => exact sd_var i
  | cst c => exact sd_cst c
  | glb g => exact sd_glb g
  | tup es ih => exact sd_tup ih
  | lst es ih => exact sd_lst ih
  | dct0 => exact sd_dct0
  | bin op a b ia ib => exact sd_bin ia ib
  | neg a ia => exact sd_neg ia
  | nt a ia => exact sd_nt ia
  | an a b ia ib => exact sd_an ia ib
  | oo a b ia ib => exact sd_oo ia ib
  | cmp op a b ia ib => exact sd_cmp ia ib
  | chn op op' a b c ia ib ic => exact sd_chn ia ib ic
  | ife c a b ic ia ib => exact sd_ife ic ia ib
  | idx a i ia ii => exact sd_idx ia ii
  | slc a lo hi ia il iu => exact sd_slc ia il iu
  | rvs a ia => exact sd_no rfl
  | none => exact sd_none
  | call f args ia => exact sd_call ia
  | callk f args kws perm ia ik => exact sd_no rfl
  | blt b args ia => exact sd_blt ia
  | isi ty a ia => exact sd_isi ia
  | isx c a ia => exact sd_isx ia
  | clov i args ia => exact sd_no rfl
  | exn c a ia => exact sd_exn ia
  | attr a ia => exact sd_attr ia
  | lc own tg it tst el ig ii itt ie => exact sd_lc ig ii itt ie
  | lam k => exact sd_no rfl
  | nil => exact sd_nil
  | cons e r ie ir => exact sd_cons ie ir
  | star e r ie ir => exact sd_no rfl
  | asg tg e ig ie => exact sd_asg ig ie
  | aug i op e ie => exact sd_no rfl
  | iff c a b ic ia ib => exact sd_iff ic ia ib
  | whl c b ic ib => exact sd_whl ic ib
  | fo tg it b ig ii ib => exact sd_fo ig ii ib
  | ret e ie => exact sd_ret ie
  | retn => exact sd_retn
  | xpr e ie => exact sd_xpr ie
  | app l e il ie => exact sd_app il ie
  | ext l e il ie => exact sd_ext il ie
  | rse c e ie => exact sd_no rfl
  | brk => exact sd_brk
  | cnt => exact sd_cnt
  | pas => exact sd_pas
  | doc => exact sd_no rfl
  | try1 i j k c e ie => exact sd_no rfl
  | kil i => exact sd_no rfl
  | rpx a ia => exact sd_rpx ia
  | lrg a ia => exact sd_lrg ia
  | tn i => exact sd_tn
  | tt ts it => exact sd_tt it
  | tsub o i io ii => exact sd_tsub io ii
  | rng1 a ia => exact sd_rng1 ia
  | rng2 a b ia ib => exact sd_rng2 ia ib
end
end EV
set_option linter.all false
set_option maxRecDepth 100000
set_option maxHeartbeats 2000000
/-! Ev18: a whole program; the law's end. -/
namespace EV
open PySem PySem.Spec PyProof.Rows L2

/-- a def as it stands in the written part -/
structure DefF (K : PySem.W.Frag) (mg : Str → Option Value) (M : Nms) (d : Fd) (x : Str) (fa : Addr) (fd : FuncData) (ps : List Str) : Prop where
  ex : ∃ oc od osl name qual params body scope kV doc pm an cdv ct N, fd = PySem.W.fnOf name qual params body scope .none kV doc pm an cdv ct ∧ K.lookup fa = some ⟨oc, od, .func fd, osl⟩ ∧ PySem.W.codeIn K cdv qual = true ∧ FnScope N ps scope ∧ N.length = d.ns ∧
    (rep M d.body).ss ⟨scope, N, true, d.flag⟩ body = true
  np : ps.length = d.np
  bd : Binds K fd ps []
  mg : mg x = some (.ref fa)
  kp : PySem.W.keepIn K (.ref fa) = true
  nf : d.flag = false
/-- a program in the written part -/
structure PgF (prog : Program) (K : PySem.W.Frag) (mg : Str → Option Value) (Γ : Gm) (M : Nms) (P : Pg) : Prop where
  kk : Γ.K = K
  tabs : Γ.tabs = []
  glb : ∀ (i : Nat) x v, M.glb[i]? = some x → P.glob[i]? = some v → ∃ V u, mg x = some u ∧ RelV V u ∧ ∀ φ H W, VR Γ φ H W v V
  bl : ∀ x, x ∈ bltNames → mg x = none
  fns : ∀ (f : Nat) x, M.fns[f]? = some x → ∃ d fa fd ps, P.fns[f]? = some d ∧ DefF K mg M d x fa fd ps
  cls : ∀ (c : Nat) x, M.cls[c]? = some x → mg x = some (.ref (Γ.clsA c))
  exf : ∃ D fI cc, InitF prog K mg D fI cc ∧ PySem.W.typeIn K (.ref fI) = some (.type "function") ∧ ∀ c, ClsF K D (Γ.clsA c) ∧ PySem.W.findIn K (.ref (Γ.clsA c)) "__init__" = some (some (.ref fI))
  exi : ∀ c, ExcC K (Γ.clsA c) ∧ PySem.W.kitOne K (.ref (Γ.clsA c)) (.type "ValueError") = some true
  exs : ∀ c d, PySem.W.kitOne K (.ref (Γ.clsA c)) (.ref (Γ.clsA d)) = some (P.sub c d)
  exn : ∀ d, PySem.W.kitOne K (.type "NoneType") (.ref (Γ.clsA d)) = some false
  exr : ∀ c, ClsR K (Γ.clsA c) (P.cnm c)
theorem evN_len {P : Pg} {f : Nat} {d : Fd} (h : P.fns[f]? = some d) : ∀ (n : Nat) (vs : List PV) (h0 : Hh), vs.length ≠ d.np → evN P n true f vs h0 = .err
  | 0, _, _, _ => rfl
  | n + 1, vs, h0, hn => by
    show (match P.fns[f]? with
      | some d => if vs.length = d.np then runF P (evN P n true) (fun k cs vs h => evN P n false k (cs ++ vs) h) d vs h0 else .err
      | none => .err) = _
    rw [h]
    exact if_neg hn
theorem RE.start {Γ φ H W as Vs} {N : List Str} {k : Nat} (v : VRs Γ φ H W as Vs) : RE Γ φ H W (as.map some ++ List.replicate k none) (L2.start N Vs) := ⟨fun i x e => by
  by_cases hi : i < as.length
  · rw [List.getElem?_append_left (by simpa using hi), List.getElem?_map] at e
    cases q : as[i]? with
    | none => rw [q] at e; cases e
    | some y =>
      rw [q] at e
      cases e
      obtain ⟨V, e1, z⟩ := v.get q
      refine ⟨V, ?_, z⟩
      unfold L2.start
      rw [List.getElem?_append_left (by rw [List.length_map, v.len]; exact hi), List.getElem?_map, e1]
      rfl
  · rw [List.getElem?_append_right (by simpa using hi), List.getElem?_replicate] at e
    split at e <;> cases e⟩
/-- ALL defs keep what the evaluator says, at every depth -/
theorem defs_ok {prog : Program} {w : World} {K : PySem.W.Frag} {mg : Str → Option Value} {base : Heap} {Γ : Gm} {M : Nms} {P : Pg} (G : PgF prog K mg Γ M P) :
    ∀ (n : Nat) (f : Nat) (x : Str) (d : Fd) (fa : Addr) (fd : FuncData) (ps : List Str), P.fns[f]? = some d → DefF K mg M d x fa fd ps → FnE prog w K mg base (n + 5) fa fd ps (spF Γ ps.length (evN P n true f))
  | 0, f, x, d, fa, fd, ps, hf, D => ⟨fun vs H Q E h => h.1, fun A outer s H args us vs Q E _ _ _ _ _ h => by
      obtain ⟨_, φ, h0, xs, _, _, p⟩ := h
      exact p.elim⟩
  | n + 1, f, x, d, fa, fd, ps, hf, D => by
    obtain ⟨oc, od, osl, name, qual, params, body, scope, kV, doc, pm, an, cdv, ct, N, rfl, lk, hcd, S, hN, hrep⟩ := D.ex
    refine fnE_of (k := n + 5) lk hcd S (fun vs H Q E h => h.1) fun A outer s H Vs Q E gd hr hsp => ?_
    obtain ⟨hl, φ, h, vs, hh, vr, p⟩ := hsp
    have p : PoR Γ φ H (runF P (evN P n true) (fun k cs vs h => evN P n false k (cs ++ vs) h) d vs h) Q E := by
      have e : evN P (n + 1) true f vs h = runF P (evN P n true) (fun k cs vs h => evN P n false k (cs ++ vs) h) d vs h := by
        show (match P.fns[f]? with
          | some d => if vs.length = d.np then runF P (evN P n true) (fun k cs vs h => evN P n false k (cs ++ vs) h) d vs h else .err
          | none => .err) = _
        rw [hf]
        exact if_pos (by rw [← D.np, ← vr.len]; exact hl)
      rw [← e]
      exact p
    obtain ⟨φ0, h0, as, hr0, v0, p0⟩ := lcl_ok hh vr p
    let X := cxOf (CX prog w) prog w K mg base N qual scope fa cdv A outer s H E
    let C : Ct := ⟨Γ, X, false, [], E⟩
    have tk : Takes X (fun cls dd _ H => E cls dd H) := takes_of rfl rfl rfl rfl
    have Y : Sy M ⟨scope, N, true, d.flag⟩ C (cfgOf P (evN P n true) (fun k cs vs h => evN P n false k (cs ++ vs) h) d.flag d.capd) := {
      K := G.kk.symm
      N := rfl
      nd := S.nd
      sc := rfl
      calm := rfl
      un := (show (A.deeper (envOfC qual scope s.heap.objs.size fa cdv)).units + 90 < cLine from by have := hr.un; omega)
      gd := gd
      fn := fun _ _ => rfl
      off := fun _ => rfl
      fl := fun z => by cases z
      po := passes_of rfl
      px := passes_call tk fun cls dd σ H z => z.2
      glb := G.glb
      bl := G.bl
      fns := fun f' x' e => by
        obtain ⟨d', fa', fd', ps', e1, D'⟩ := G.fns f' x' e
        exact ⟨fa', ⟨n + 5, fd', ps', defs_ok G n f' x' d' fa' fd' ps' e1 D', fun vs h hn => evN_len e1 n vs h (by rw [← D'.np]; exact hn), hr, D'.bd⟩, D'.mg, D'.kp⟩
      cls := G.cls
      exf := by
        obtain ⟨D0, fI, cc, F1, F2, F3⟩ := G.exf
        exact ⟨D0, fI, cc, 0, F1, hr.mono (by omega), F2, F3⟩
      exi := G.exi
      exs := G.exs
      exn := G.exn
      exr := G.exr }
    refine ⟨_, (sound d.body).ss _ C _ Y body hrep, φ0, as.map some ++ List.replicate (d.ns - d.np) none, h0, ⟨hr0.w Ct.w_on, (RE.start v0).mono Stp.refl Ct.w_on⟩, ?_⟩
    rw [D.nf] at p0 ⊢
    have off : ∀ {σ' H'} , ∀ c v, C.W σ' H' c v → Trk H' c v := fun c v z => Ct.w_off rfl c v z
    generalize ((ev (cfgOf P (evN P n true) (fun k cs vs h => evN P n false k (cs ++ vs) h) false d.capd) d.body).s (as.map some ++ List.replicate (d.ns - d.np) none) h0) = r at p0 ⊢
    cases r with
    | ok fl h1 =>
      cases fl with
      | nx ρ => exact fun φ' H' s' σ' rl => p0 φ' H' s' (rl.hr.w off) .non rfl
      | rt v => exact fun φ' H' s' hr V vr => p0 φ' H' s' hr V vr
      | bk ρ => exact p0.elim
      | ct ρ => exact p0.elim
    | ex c v h1 => exact fun φ' H' d y s' hr e vr => ⟨rfl, p0 φ' H' d y s' hr e vr⟩
    | err => exact p0.elim

/-! ### the law's end -/
theorem law_callE {P : Program} {w : World} {K : PySem.W.Frag} {mg mb : Str → Option Value} {k : Nat} {fa a : Addr} {fd : FuncData} {x : Str} {sp : Sp} {s₁ : Shared} {vs : List Value} {ns : List Int}
    (KX : K.In s₁.heap) (hns : s₁.heap.Ns mainGlobals mg) (hb : s₁.heap.Ns builtinsNs mb) (hbb : ∀ x : Str, x ≠ "__name__" → mb x = bootBuiltins x) (hlim : s₁.heap.NoLimit) (hg : s₁.gens = #[]) (hKL : ∀ a o, K.lookup a = some o → o.cls ≠ .type "list")
    (ha : s₁.heap.get? a = some { cls := .type "list", data := .seq vs.toArray }) (hi : IntsAre vs ns) (hl : ns.length ≤ sizeLine) (hr : Room k callerA)
    (F : ∀ base : Heap, FnE P w K mg base k fa fd [x] sp) (hbind : ∀ (s : Shared) (u : Value), K.In s.heap → BindsTo s fd ⟨[u], []⟩ [(x, u)])
    (hsp : ∀ H : Hp, (∃ o, H a = some (.frz o (.lst (ns.map V.int)))) → sp [.ref a] H (fun v _ => v = .bl true) fun _ _ _ => False) :
    codeAny (model P w) callerA (.call (.ref fa) ⟨[.ref a], []⟩) (fun r s' => r = .ok (.ret (.bool true)) ∧ OldK s₁.heap s'.heap ∧ s'.os = s₁.os ∧ AllBare s'.gens) s₁ := by
  have rv := vals_ints hi
  have hk : K.lookup a = none := by
    cases q : K.lookup a with
    | none => rfl
    | some o =>
      have e := KX a o q
      rw [ha] at e
      cases e
      exact absurd rfl (hKL a _ q)
  obtain ⟨H, hH⟩ : ∃ H : Hp, H = fun b => if b = a then some (.frz { cls := .type "list", data := .seq vs.toArray } (.lst (ns.map V.int))) else none := ⟨_, rfl⟩
  have Ha : H a = some (.frz { cls := .type "list", data := .seq vs.toArray } (.lst (ns.map V.int))) := by rw [hH]; exact if_pos rfl
  have Hn : ∀ b, b ≠ a → H b = none := fun b hb => by rw [hH]; exact if_neg hb
  have hok : HOk P w H s₁.heap := fun b u z => by
    by_cases hb : b = a
    · rw [hb, Ha] at z
      cases z
      rw [hb]
      exact ⟨ha, by rw [List.length_map]; exact hl, vs, _, rv, ha⟩
    · rw [Hn b hb] at z
      cases z
  have base_of : ∀ {b : Addr} {o : Obj}, s₁.heap.get? b = some o → b ≠ a → (hidT s₁.heap H).get? b = some o := fun e n => hidT_get e (Hn _ n)
  have nsK : ∀ {b : Addr} {m : Str → Option Value}, s₁.heap.Ns b m → (hidT s₁.heap H).Ns b m := fun {b m} ⟨o, es, ep, e, d, r⟩ => ⟨o, es, ep, base_of e (fun z => by
    rw [z, ha] at e
    cases e
    have d' : Data.seq vs.toArray _ = Data.dict es ep := d
    cases d'), d, r⟩
  have hKb : K.In (hidT s₁.heap H) := fun b o e => base_of (KX b o e) fun z => by rw [z, hk] at e; cases e
  have hM : L2.Mod K mg (hidT s₁.heap H) := ⟨hKb, nsK hns, ⟨mb, nsK hb, hbb⟩, let ⟨mc, h1, h2⟩ := hlim; ⟨mc, nsK h1, h2⟩⟩
  have e0 : Env0 P w K mg (hidT s₁.heap H) callerA [] s₁ H := ⟨rfl, hM, fun b o e => of_hidT e, Nat.le_of_eq (hidT_size _ _), trivial, fun b hb => absurd (show b ∈ ([] : List Addr) from hb) (by simp), hok, .of_eq hg⟩
  refine codeAny_mono ((F (hidT s₁.heap H)).run callerA [] s₁ H ⟨[.ref a], []⟩ [.ref a] [.ref a] _ _ rfl hr e0 (hbind s₁ (.ref a) KX) (.cons rfl .nil) (hsp H ⟨_, Ha⟩)) fun r s' h => ?_
  cases r with
  | error e =>
    obtain ⟨_, _, _, _, _, _, _, _, _, _, _, _, z⟩ := h
    exact z.elim
  | ok fl =>
    cases fl with
    | next => exact False.elim h
    | brk => exact False.elim h
    | cont => exact False.elim h
    | ret u =>
      obtain ⟨v, H', os, bare, un, hok', r', q⟩ := h
      have q' : v = .bl true := q
      subst q'
      obtain rfl : u = Value.bool true := r'
      refine ⟨rfl, OldK.of_keep fun b o e => ?_, os, bare⟩
      by_cases hb : b = a
      · subst hb
        have z2 := un.frzs b _ _ Ha
        obtain ⟨e2, _⟩ := hok' b _ z2
        rw [ha] at e; cases e
        exact e2
      · exact un.keep b o e (Hn b hb) (by intro z; exact absurd (show b ∈ ([] : List Addr) from z) (by simp)) (by simp)
theorem ints_vrs {Γ φ H W} : ∀ ns : List Int, VRs Γ φ H W (ns.map PV.int) (ns.map V.int)
  | [] => rfl
  | n :: ns => VRs.cons' (show VR Γ φ H W (.int n) (.int n) from rfl) (ints_vrs ns)
/-- the law, from the evaluator's answer -/
theorem walk_ev {l : PySem.W.OpenLaw} {n : Nat} {q : Program} {loose : List Str} {XP : (Str → Option Value) → Heap → Prop} {YP : World → Heap → Prop} {d : DefRec} {x : Str} {M : Nms} {P : Pg} {dep f : Nat} (hn : l.most = some n) (hn2 : n ≤ sizeLine) (hdf : d.params.defaults = []) (hr : Room (dep + 5) callerA)
    (F : ∀ (w : World) (mg : Str → Option Value) (fa : Addr) (h : Heap), YP w h → h.Ns mainGlobals mg → mg d.name = some (.ref fa) →
      ∃ (K : PySem.W.Frag) (Γ : Gm) (dd : Fd) (fd : FuncData), K.In h ∧ (∀ a o, K.lookup a = some o → o.cls ≠ .type "list") ∧ PgF l.prog K mg Γ M P ∧ P.fns[f]? = some dd ∧ DefF K mg M dd d.name fa fd [x])
    (ev : ∀ ns : List Int, ns.length ≤ n → ∃ h, evN P dep true f [.ref 0] [.lst true (ns.map PV.int)] = .ok (.bl true) h) :
    PySem.W.WalkO q loose XP YP l.row.toRowW d [] (fun f vs => PySem.call f vs) := by
  refine Att.attach_call hn hdf fun w s₀ s₁ mg mb fa o pm cd doc a vs ns G Y ho hd hcd hmg hobj hints hlen hg => ?_
  obtain ⟨K, Γ, dd, fd, KX, hKL, PF, hf, D⟩ := F w mg fa _ Y G.T.g hmg
  refine law_callE KX G.T.g G.T.b G.T.builtins G.T.nolimit hg hKL hobj hints (Nat.le_trans hlen hn2) hr (fun base => defs_ok PF dep f d.name dd fa fd [x] hf D) (fun s u X => D.bd s [u] X rfl) fun H hH => ?_
  · obtain ⟨o1, Ha⟩ := hH
    obtain ⟨h1, e⟩ := ev ns hlen
    have sg : ∀ {k : Nat} {z b : HV}, ([z] : Hh)[k]? = some b → k = 0 ∧ b = z := fun {k z b} q => by
      cases k with
      | zero => simp at q; exact ⟨rfl, q.symm⟩
      | succ k => simp at q
    have sa : ∀ {k : Nat} {b : Addr}, ([a] : List Addr)[k]? = some b → k = 0 ∧ b = a := fun {k b} q => by
      cases k with
      | zero => simp at q; exact ⟨rfl, q.symm⟩
      | succ k => simp at q
    refine ⟨rfl, [a], [.lst true (ns.map PV.int)], [.ref 0], ⟨rfl, fun k o b q1 q2 => ?_, fun k m b xs ys q1 q2 q3 q4 => ?_, ?_⟩, ?_, ?_⟩
    · obtain ⟨rfl, rfl⟩ := sg q1
      obtain ⟨_, rfl⟩ := sa q2
      exact ⟨ns.map V.int, ⟨o1, Ha⟩, ints_vrs ns⟩
    · obtain ⟨rfl, z⟩ := sg q3
      cases z
    · rw [PF.tabs]
      exact fun p hp => by cases hp
    · exact VRs.cons' (by simp only [VR]; exact ⟨a, rfl, rfl⟩) (show VRs Γ [a] H (Trk H) [] [] from rfl)
    · rw [e]
      exact fun φ' H' s' hr V vr => vr
end EV
set_option linter.all false
set_option maxRecDepth 100000
set_option maxHeartbeats 2000000
/-! Ev19: the head's facts, looked at in the written part. -/
namespace EV
open PySem PySem.Spec PyProof.Rows L2

/-! ### the written part: what the module's names reach -/
def refsC (o : Obj) : List Addr := He.refsO o ++ match o.data with
  | .func fd => fd.closure.map (·.2)
  | _ => []
def growC (g : Addr → Option Obj) (as : List Addr) : List Addr := (as ++ as.flatMap fun a => match g a with
  | some o => refsC o
  | none => []).eraseDups
def asC (g : Addr → Option Obj) : Nat → List Addr
  | 0 => [mainGlobals, cStatics]
  | n + 1 => growC g (asC g n)
def frC (g : Addr → Option Obj) (n : Nat) : PySem.W.Frag := (He.frG g (asC g n)).filter fun p => !(p.2.cls == .type "list")
theorem frC_lookup {g : Addr → Option Obj} {a : Addr} {o : Obj} : ∀ {K : PySem.W.Frag}, (K.filter fun p => !(p.2.cls == .type "list")).lookup a = some o → (∀ b u, (b, u) ∈ K → g b = some u) → g a = some o ∧ o.cls ≠ .type "list"
  | [], e, _ => nomatch (show (none : Option Obj) = some o from e)
  | (b, u) :: r, e, h => by
    have hr : ∀ b u, (b, u) ∈ r → g b = some u := fun c v m => h c v (List.mem_cons_of_mem _ m)
    by_cases hc : (!(u.cls == Value.type "list")) = true
    · have ef : ((b, u) :: r).filter (fun p => !(p.2.cls == Value.type "list")) = (b, u) :: r.filter fun p => !(p.2.cls == Value.type "list") := List.filter_cons_of_pos hc
      rw [ef] at e
      have e2 : (match a == b with | true => some u | false => (r.filter fun p => !(p.2.cls == Value.type "list")).lookup a) = some o := e
      cases q : (a == b) with
      | true =>
        rw [q] at e2
        cases e2
        have : a = b := eq_of_beq q
        subst this
        refine ⟨h a _ List.mem_cons_self, fun z => ?_⟩
        rw [z] at hc
        simp at hc
      | false =>
        rw [q] at e2
        exact frC_lookup e2 hr
    · have ef : ((b, u) :: r).filter (fun p => !(p.2.cls == Value.type "list")) = r.filter fun p => !(p.2.cls == Value.type "list") := List.filter_cons_of_neg hc
      rw [ef] at e
      exact frC_lookup e hr
theorem frG_mem {g : Addr → Option Obj} {as : List Addr} {b : Addr} {u : Obj} (h : (b, u) ∈ He.frG g as) : g b = some u := by
  unfold He.frG at h
  obtain ⟨c, hc, e⟩ := List.mem_filterMap.mp h
  cases q : g c with
  | none => rw [q] at e; cases e
  | some o =>
    rw [q] at e
    cases e
    exact q
theorem frC_in {h : Heap} {n : Nat} : (frC h.get? n).In h := fun a o e => (frC_lookup (g := h.get?) e fun _ _ m => frG_mem m).1
theorem frC_nl {g : Addr → Option Obj} {n : Nat} : ∀ a o, (frC g n).lookup a = some o → o.cls ≠ .type "list" := fun a o e => (frC_lookup (g := g) e fun _ _ m => frG_mem m).2

/-! ### checks -/
def oexB (K : PySem.W.Frag) (C : Addr) : Bool := (match K.lookup C with
    | some ⟨c, _, .cls cd, sl⟩ => c == .type "type" && ((match cd.mro with
      | .ref C' :: bm => C' == C && PySem.HandSPX.refsVE bm
      | _ => false) && (cd.hasDict && (!cd.hasDel && (match sl.toList with
      | [_, _, _, _, some (.builtin n), _] => n == "ValueError.__new__"
      | _ => false))))
    | _ => false) && (He.eqO (PySem.W.findIn K (.ref C) "__setattr__") (some (some (.builtin "object.__setattr__"))) && (decide (PySem.W.subIn K (.ref C) (.type "BaseException") = some true) &&
    (decide (PySem.W.typeIn K (.ref C) = some (.type "type")) && PySem.W.keepIn K (.ref C))))
theorem oexB_ok {K : PySem.W.Frag} {C : Addr} (h : oexB K C = true) : OexC K C := by
  unfold oexB at h
  simp only [Bool.and_eq_true, decide_eq_true_eq] at h
  obtain ⟨h1, h2, h3, h4, h5⟩ := h
  refine ⟨?_, He.eqO_ok h2, h3, h4, h5⟩
  split at h1
  · rename_i c dd cd sl lk
    simp only [Bool.and_eq_true, Bool.not_eq_true'] at h1
    obtain ⟨a1, a2, a3, a4, a5⟩ := h1
    obtain ⟨nm, bs, mro, ns, qn, hd, sn, sub, ab, col, del⟩ := cd
    dsimp only at a2 a3 a4
    subst a3 a4
    split at a2
    · rename_i C' bm
      simp only [Bool.and_eq_true] at a2
      split at a5
      · rename_i k0 k1 k2 k3 n k5 es
        obtain rfl := eq_of_beq a5
        obtain rfl : C' = C := eq_of_beq a2.1
        obtain rfl : c = .type "type" := eq_of_beq a1
        have es' : sl = #[k0, k1, k2, k3, some (.builtin "ValueError.__new__"), k5] := by
          obtain ⟨l⟩ := sl
          simp only at es
          rw [es]
        subst es'
        exact ⟨nm, qn, ns, bs, bm, sn, sub, ab, col, dd, k0, k1, k2, k3, k5, lk, a2.2⟩
      · cases a5
    · cases a2
  · cases h1
def clsFB (K : PySem.W.Frag) (D fI C : Addr) : Bool := oexB K C && (decide (PySem.W.mroIn K C (.ref D) = some true) && (decide (PySem.W.ks_superIn K C D "__init__" = some (some (.builtin "ValueError.__init__"))) &&
  (decide (PySem.W.subIn K (.ref C) (.type "ValueError") = some true) && (He.eqO (PySem.W.findIn K (.ref C) "value") (some none) && He.eqO (PySem.W.findIn K (.ref C) "__init__") (some (some (.ref fI)))))))
theorem clsFB_ok {K : PySem.W.Frag} {D fI C : Addr} (h : clsFB K D fI C = true) : ClsF K D C ∧ PySem.W.findIn K (.ref C) "__init__" = some (some (.ref fI)) := by
  unfold clsFB at h
  simp only [Bool.and_eq_true, decide_eq_true_eq] at h
  obtain ⟨h1, h2, h3, h4, h5, h6⟩ := h
  exact ⟨⟨oexB_ok h1, h2, h3, h4, He.eqO_ok h5⟩, He.eqO_ok h6⟩
def clsIB (K : PySem.W.Frag) (C : Addr) : Bool := He.eqO (PySem.W.findIn K (.ref C) "__getattribute__") (some (some (.builtin "BaseException.__getattribute__"))) && (He.eqO (PySem.W.findIn K (.ref C) "__getattr__") (some none) &&
  (decide (PySem.W.subIn K (.ref C) (.type "BaseException") = some true) && (PySem.W.hasDictIn K C && (He.eqO (PySem.W.findIn K (.ref C) "__class__") (some (some (.builtin "object.__class__"))) &&
  (He.eqO (PySem.W.specialIn K (.builtin "object.__class__") "__get__") (some (some (.builtin "getset_descriptor.__get__"))) && (decide (PySem.W.takesIn K (.builtin "object.__class__") = some true) && (decide (PySem.W.mroIn K C (.type "object") = some true) &&
  (decide (PySem.W.kitOne K (.ref C) (.type "ValueError") = some true) && decide (PySem.W.kitOne K (.type "NoneType") (.ref C) = some false)))))))))
theorem clsIB_ok {K : PySem.W.Frag} {C : Addr} (h : clsIB K C = true) : (ExcC K C ∧ PySem.W.kitOne K (.ref C) (.type "ValueError") = some true) ∧ PySem.W.kitOne K (.type "NoneType") (.ref C) = some false := by
  unfold clsIB at h
  simp only [Bool.and_eq_true, decide_eq_true_eq] at h
  obtain ⟨h1, h2, h3, h4, h5, h6, h7, h8, h9, h10⟩ := h
  exact ⟨⟨⟨He.eqO_ok h1, He.eqO_ok h2, h3, h4, He.eqO_ok h5, He.eqO_ok h6, h7, h8⟩, h9⟩, h10⟩
def clsRB (K : PySem.W.Frag) (C : Addr) (n : Str) : Bool := He.eqO (PySem.W.findIn K (.ref C) "__repr__") (some (some (.builtin "BaseException.__repr__"))) && (decide (PySem.W.subIn K (.ref C) (.type "BaseException") = some true) && match PySem.W.clsIn K C with
  | some cd => decide (excReprHead cd.name.toString = n)
  | none => false)
theorem clsRB_ok {K : PySem.W.Frag} {C : Addr} {n : Str} (h : clsRB K C n = true) : ClsR K C n := by
  unfold clsRB at h
  simp only [Bool.and_eq_true, decide_eq_true_eq] at h
  obtain ⟨h1, h2, h3⟩ := h
  refine ⟨He.eqO_ok h1, h2, ?_⟩
  split at h3
  · rename_i cd e
    exact ⟨cd, e, of_decide_eq_true h3⟩
  · cases h3
/-- the __init__ -/
abbrev FnI : Type := Option (Str × Arguments × FuncBody × Scope × Addr × List Str × Value × Value × Addr)
def fIA (K : PySem.W.Frag) (arm : Str) : Addr := He.ma K (He.ga K arm) "__init__"
def fnI (K : PySem.W.Frag) (arm : Str) : FnI := match K.lookup (fIA K arm) with
  | some ⟨_, _, .func fd, _⟩ => some (fd.name, fd.params, fd.body, fd.scope, fd.globals, fd.closure.map (·.1), fd.defaults, fd.kwdefaults, fd.builtins)
  | _ => none
def valI : FnI := some ("__init__", initArgs, .stmts initBody, initScope, mainGlobals, ["__class__"], .none, .none, builtinsNs)
def initB (K : PySem.W.Frag) (arm : Str) (file : Str) : Bool := (match K.lookup (fIA K arm) with
    | some ⟨_, _, .func fd, _⟩ => PySem.W.codeIn K fd.code fd.qualname && ((match fd.code with
      | .ref c => (match K.lookup c with
        | some ⟨_, _, .fields vs, _⟩ => (match (vs[2]? : Option Value) with
          | some (Value.str f _) => decide (file = f)
          | _ => false)
        | _ => false)
      | _ => false) && (match fd.closure with
      | [(_, c)] => (match K.lookup c with
        | some ⟨_, _, .cell (some (.ref d)), _⟩ => d == He.ga K arm
        | _ => false)
      | _ => false))
    | _ => false) && ((PySem.W.clsIn K (He.ga K arm)).isSome && (He.eqO (PySem.W.nsIn K mainGlobals "super") (some none) && (He.eqO (PySem.W.nsIn K cStatics "thirdparty.any") (some none) && decide (PySem.W.typeIn K (.ref (fIA K arm)) = some (.type "function")))))
theorem initB_ok {prog : Program} {K : PySem.W.Frag} {arm file : Str} {h : Heap} {mg : Str → Option Value} (X : K.In h) (G : h.Ns mainGlobals mg) (e : fnI K arm = valI) (b : initB K arm file = true) (hf : (prog.main.file : Str) = file) (ht : (prog.main.scope.names.lookup ("super" : Str)).isSome = false) :
    ∃ cc, InitF prog K mg (He.ga K arm) (fIA K arm) cc ∧ PySem.W.typeIn K (.ref (fIA K arm)) = some (.type "function") := by
  unfold initB at b
  simp only [Bool.and_eq_true, decide_eq_true_eq] at b
  obtain ⟨b1, b2, b3, b4, b5⟩ := b
  unfold fnI at e
  split at b1
  · rename_i oc od fd osl lk
    rw [lk] at e
    obtain ⟨n1, n2, n3, n4, n5, n6, n7, n8, n9, n10, n11, n12, n13, n14, n15⟩ := fd
    simp only [valI, Option.some.injEq, Prod.mk.injEq] at e
    simp only [Bool.and_eq_true] at b1
    obtain ⟨c1, c2, c3⟩ := b1
    split at c3
    · rename_i nm c ec
      obtain ⟨h1, h2, h3, h4, h5, h6, h7, h8, h9⟩ := e
      split at c2
      · rename_i cda ecd
        split at c2
        · rename_i ccl cdd vs ccs lkc
          split at c2
          · rename_i f tf ev
            split at c3
            · rename_i cl cld d csl lkd
              obtain rfl : d = He.ga K arm := eq_of_beq c3
              obtain rfl : file = f := of_decide_eq_true c2
              simp only [List.map_cons, List.map_nil, List.cons.injEq, and_true] at h6
              subst h1 h2 h3 h4 h5 h6 h7 h8 h9
              obtain ⟨cd, hcd⟩ := Option.isSome_iff_exists.mp b2
              exact ⟨ec, ⟨⟨oc, od, osl, n2, n10, n11, n12, n14, ecd, lk, c1, ccl, cdd, vs, ccs, file, tf, lkc, ev, by rw [hf]; exact beq_self_eq_true _⟩, ⟨cl, cld, csl, lkd⟩, ⟨cd, hcd⟩, ht, PySem.W.mg_none_of X G (He.eqO_ok b3), He.eqO_ok b4⟩, b5⟩
            · cases c3
          · cases c2
        · cases c2
      · cases c2
    · cases c3
  · cases b1

/-! ### all of it -/
/-- where class c's object stands -/
def clsAt (K : PySem.W.Frag) (M : Nms) (c : Nat) : Addr := He.ga K (M.cls.getD c (M.cls.headD ""))
def gmOf (K : PySem.W.Frag) (M : Nms) : Gm := ⟨K, clsAt K M, fun _ => ⟨"", ⟨[], [], none, [], [], none, []⟩, .Constant .none 0 ⟨0, 0, 0, 0⟩, ⟨.function, [], false, false, []⟩, []⟩, []⟩
def nrm (n c : Nat) : Nat := if c < n then c else 0
/-- the classes: the first one above all others -/
def subP (n : Nat) : Nat → Nat → Bool := fun c d => nrm n c == nrm n d || nrm n d == 0
def cnmP (M : Nms) : Nat → Str := fun c => M.cls.getD c (M.cls.headD "")
def chk (M : Nms) (file : Str) (K : PySem.W.Frag) : Bool :=
  (M.fns.all fun x => He.eqO (PySem.W.nsIn K mainGlobals x) (some (some (.ref (He.ga K x)))) && PySem.W.keepIn K (.ref (He.ga K x))) &&
  ((M.cls.all fun x => He.eqO (PySem.W.nsIn K mainGlobals x) (some (some (.ref (He.ga K x))))) &&
  ((bltNames.all fun x => He.eqO (PySem.W.nsIn K mainGlobals x) (some none)) &&
  (initB K (M.cls.headD "") file &&
  ((M.cls.all fun x => clsFB K (He.ga K (M.cls.headD "")) (fIA K (M.cls.headD "")) (He.ga K x) && (clsIB K (He.ga K x) && clsRB K (He.ga K x) x)) &&
  ((List.range M.cls.length).all fun c => (List.range M.cls.length).all fun d => decide (PySem.W.kitOne K (.ref (clsAt K M c)) (.ref (clsAt K M d)) = some (subP M.cls.length c d)))))))
theorem clsAt_mem {K : PySem.W.Frag} {M : Nms} (h : M.cls ≠ []) (c : Nat) : ∃ x, x ∈ M.cls ∧ clsAt K M c = He.ga K x ∧ cnmP M c = x := by
  unfold clsAt cnmP
  cases e : M.cls[c]? with
  | some x =>
    have : M.cls.getD c (M.cls.headD "") = x := by rw [List.getD_eq_getElem?_getD, e]; rfl
    exact ⟨x, List.mem_of_getElem? e, by rw [this], this⟩
  | none =>
    have : M.cls.getD c (M.cls.headD "") = M.cls.headD "" := by rw [List.getD_eq_getElem?_getD, e]; rfl
    refine ⟨M.cls.headD "", ?_, by rw [this], this⟩
    cases q : M.cls with
    | nil => exact absurd q h
    | cons a l => exact List.mem_cons_self
theorem clsAt_nrm {K : PySem.W.Frag} {M : Nms} (c : Nat) : clsAt K M c = clsAt K M (nrm M.cls.length c) := by
  unfold nrm
  split
  · rfl
  · rename_i h
    unfold clsAt
    rw [List.getD_eq_getElem?_getD, List.getD_eq_getElem?_getD, List.getElem?_eq_none (by omega)]
    cases M.cls <;> rfl
/-- one def of the text, looked at without the heap -/
structure DefT (M : Nms) (x : Str) (d : Fd) (D : He.FnD) (ps : List Str) : Prop where
  at_ : D.at_ = (x, none)
  sc : ∃ N, FnScope N ps D.scope ∧ N.length = d.ns ∧ (rep M d.body).ss ⟨D.scope, N, true, d.flag⟩ D.body = true
  np : ps.length = d.np
  bd : ∀ kV doc pm an cdv ct (us : List Value), us.length = ps.length → bindArgs (PySem.W.fnOf D.name D.qual D.params D.body D.scope .none kV doc pm an cdv ct) ⟨us, []⟩ = pure (ps.zip us)
  nf : d.flag = false
theorem defF_of {M : Nms} {x : Str} {d : Fd} {D : He.FnD} {ps : List Str} {K : PySem.W.Frag} {h : Heap} {mg : Str → Option Value} (T : DefT M x d D ps) (X : K.In h) (G : h.Ns mainGlobals mg) (e : He.fnObs K D.at_ = D.val) (c : (He.Fa.code D.at_ D.qual).ok K = true)
    (g : He.eqO (PySem.W.nsIn K mainGlobals x) (some (some (.ref (He.ga K x)))) = true) (kp : PySem.W.keepIn K (.ref (He.ga K x)) = true) : ∃ fd, DefF K mg M d x (He.ga K x) fd ps := by
  obtain ⟨oc, od, osl, kV, doc, pm, an, cdv, ct, lk, hcd⟩ := He.fn_ok e c
  obtain ⟨N, S, hN, hrep⟩ := T.sc
  have ea : He.fAd K D.at_ = He.ga K x := by rw [T.at_]; rfl
  rw [ea] at lk
  exact ⟨_, ⟨oc, od, osl, D.name, D.qual, D.params, D.body, D.scope, kV, doc, pm, an, cdv, ct, N, rfl, lk, hcd, S, hN, hrep⟩, T.np, Binds.all fun us hl => T.bd kV doc pm an cdv ct us hl, PySem.W.mg_of X G (He.eqO_ok g), kp, T.nf⟩
/-- the head's Hook -/
abbrev AlE : Type := Bool × (List He.FnV × FnI)
def obsV (M : Nms) (file : Str) (fn : List He.FnD) (K : PySem.W.Frag) : AlE := (chk M file K && fn.all fun d => (He.Fa.code d.at_ d.qual).ok K, (fn.map fun d => He.fnObs K d.at_, fnI K (M.cls.headD "")))
def valV (fn : List He.FnD) : AlE := (true, (fn.map He.FnD.val, valI))
def hookV (n : Nat) (M : Nms) (file : Str) (fn : List He.FnD) : PySem.W.Hook where
  α := AlE
  obs := fun s => obsV M file fn (frC s.heap.get? n)
  val := fun _ => valV fn
  says := fun _ h => ∃ K : PySem.W.Frag, K.In h ∧ (∀ a o, K.lookup a = some o → o.cls ≠ .type "list") ∧ obsV M file fn K = valV fn
  of := fun _ _ e => ⟨_, frC_in, frC_nl, e⟩
  keeps := fun _ _ _ ⟨K, hK, l, c⟩ k => ⟨K, PySem.W.Frag.In.keeps hK k, l, c⟩
theorem pgF_of {Q : Nat → List Str → Prop} {prog : Program} {M : Nms} {P : Pg} {file : Str} {fn : List He.FnD} {K : PySem.W.Frag} {h : Heap} {mg : Str → Option Value} (X : K.In h) (G : h.Ns mainGlobals mg) (c : obsV M file fn K = valV fn) (hM : M.cls ≠ []) (hgl : M.glb = [])
    (hs : P.sub = subP M.cls.length) (hc : P.cnm = cnmP M) (hf : (prog.main.file : Str) = file) (ht : (prog.main.scope.names.lookup ("super" : Str)).isSome = false)
    (T : ∀ (f : Nat) x, M.fns[f]? = some x → ∃ d D ps, P.fns[f]? = some d ∧ fn[f]? = some D ∧ DefT M x d D ps ∧ Q f ps) : PgF prog K mg (gmOf K M) M P ∧
    ∀ (f : Nat) x, M.fns[f]? = some x → ∃ d D ps fd, P.fns[f]? = some d ∧ fn[f]? = some D ∧ (DefT M x d D ps ∧ Q f ps) ∧ DefF K mg M d x (He.ga K x) fd ps := by
  have c1 : (chk M file K && fn.all fun d => (He.Fa.code d.at_ d.qual).ok K) = true := congrArg (fun z : AlE => z.1) c
  have c2 : fn.map (fun d => He.fnObs K d.at_) = fn.map He.FnD.val := congrArg (fun z : AlE => z.2.1) c
  have c3 : fnI K (M.cls.headD "") = valI := congrArg (fun z : AlE => z.2.2) c
  unfold chk at c1
  simp only [Bool.and_eq_true, List.all_eq_true] at c1
  obtain ⟨⟨k1, k2, k3, k4, k5, k6⟩, k7⟩ := c1
  obtain ⟨cc, IF, IT⟩ := initB_ok X G c3 k4 hf ht
  have defs : ∀ (f : Nat) x, M.fns[f]? = some x → ∃ d D ps fd, P.fns[f]? = some d ∧ fn[f]? = some D ∧ (DefT M x d D ps ∧ Q f ps) ∧ DefF K mg M d x (He.ga K x) fd ps := fun f x e => by
    obtain ⟨d, D, ps, h1, h2, h3, hQ⟩ := T f x e
    obtain ⟨g1, g2⟩ := k1 x (List.mem_of_getElem? e)
    have e2 : (fn.map fun d => He.fnObs K d.at_)[f]? = (fn.map He.FnD.val)[f]? := by rw [c2]
    rw [List.getElem?_map, List.getElem?_map, h2] at e2
    obtain ⟨fd, F⟩ := defF_of h3 X G (Option.some.inj e2) (k7 D (List.mem_of_getElem? h2)) g1 g2
    exact ⟨d, D, ps, fd, h1, h2, ⟨h3, hQ⟩, F⟩
  refine ⟨⟨rfl, rfl, fun i x v e => by rw [hgl] at e; simp at e, fun x hx => PySem.W.mg_none_of X G (He.eqO_ok (k3 x hx)), fun f x e => ?_, fun c x e => ?_, ⟨_, _, cc, IF, IT, fun c => ?_⟩, fun c => ?_, fun c d => ?_, fun d => ?_, fun c => ?_⟩, defs⟩
  · obtain ⟨d, D, ps, fd, h1, _, _, F⟩ := defs f x e
    exact ⟨d, _, fd, ps, h1, F⟩
  · have e3 : clsAt K M c = He.ga K x := by
      unfold clsAt
      rw [List.getD_eq_getElem?_getD, e]
      rfl
    show mg x = some (.ref (clsAt K M c))
    rw [e3]
    exact PySem.W.mg_of X G (He.eqO_ok (k2 x (List.mem_of_getElem? e)))
  · obtain ⟨x, hx, e, _⟩ := clsAt_mem (K := K) hM c
    show ClsF K _ (clsAt K M c) ∧ PySem.W.findIn K (.ref (clsAt K M c)) _ = _
    rw [e]
    exact clsFB_ok (k5 x hx).1
  · obtain ⟨x, hx, e, _⟩ := clsAt_mem (K := K) hM c
    show ExcC K (clsAt K M c) ∧ PySem.W.kitOne K (.ref (clsAt K M c)) _ = _
    rw [e]
    exact (clsIB_ok (k5 x hx).2.1).1
  · show PySem.W.kitOne K (.ref (clsAt K M c)) (.ref (clsAt K M d)) = some (P.sub c d)
    rw [hs, clsAt_nrm c, clsAt_nrm d]
    have n0 : 0 < M.cls.length := List.length_pos_iff.mpr hM
    have lt : ∀ c, nrm M.cls.length c < M.cls.length := fun c => by unfold nrm; split <;> omega
    have nn : ∀ c, nrm M.cls.length (nrm M.cls.length c) = nrm M.cls.length c := fun c => by
      have := lt c
      rw [show nrm M.cls.length (nrm M.cls.length c) = if nrm M.cls.length c < M.cls.length then nrm M.cls.length c else 0 from rfl, if_pos this]
    have := of_decide_eq_true (k6 _ (List.mem_range.mpr (lt c)) _ (List.mem_range.mpr (lt d)))
    rw [this]
    unfold subP
    rw [nn, nn]
  · obtain ⟨x, hx, e, _⟩ := clsAt_mem (K := K) hM d
    show PySem.W.kitOne K _ (.ref (clsAt K M d)) = _
    rw [e]
    exact (clsIB_ok (k5 x hx).2.1).2
  · obtain ⟨x, hx, e, e2⟩ := clsAt_mem (K := K) hM c
    show ClsR K (clsAt K M c) (P.cnm c)
    rw [hc, e2, e]
    exact clsRB_ok (k5 x hx).2.2
end EV
set_option linter.all false
set_option maxRecDepth 100000
set_option maxHeartbeats 2000000
namespace K38
open PySem PySem.Spec PyProof.Rows L2 EV
def top (i : Nat) : Stmt := PySem.Challenge.pw_elbowsexactly_k38_errors_each_its_own.main.body.getD i (.Pass ⟨0, 0, 0, 0⟩)
def nms : Nms := ⟨["_law_pot", "_law_take", "_law_of", "_law_cells", "_law_odd", "_law_all_made", "_law_each", "_law_right", "law"], [], ["ArmError", "BadInt", "BadFraction", "BadNumber", "BadTurn", "BadPoint", "BadArm", "BadStand", "BadRods", "BadPegs", "BadBoxes", "BadPlaces", "BadJobs", "BadOrder", "BadTable", "BadText", "BadLine", "BadJournal", "Unlike", "Unknown", "Known", "Hits", "TooMany", "Full", "NothingToUndo", "NothingToRedo"]⟩
/-- _law_pot -/
def d0 : Fd := ⟨2, 5, (.cons (.asg (.tn 2) (.ife (.cmp .Lt (.var 1) (.blt .len (.cons (.var 0) .nil))) (.idx (.var 0) (.var 1)) (.bin .Add (.bin .Add (.bin .Mod (.blt .int (.cons (.blt .sum (.cons (.slc (.var 0) .none (.cst (.int 1))) .nil)) .nil)) (.cst (.int 1000211))) (.bin .Mult (.cst (.int 4639)) (.var 1))) (.cst (.int 3163))))) (.cons (.asg (.tn 3) (.bin .Mult (.bin .Mod (.blt .int (.cons (.blt .abs (.cons (.var 2) .nil)) .nil)) (.bin .Pow (.bin .Pow (.cst (.int 10)) (.cst (.int 60))) (.cst (.int 5)))) (.blt .int (.cons (.cmp .GtE (.blt .abs (.cons (.var 2) .nil)) (.bin .Pow (.cst (.int 10)) (.cst (.int 18)))) .nil)))) (.cons (.asg (.tn 4) (.bin .Mod (.blt .int (.cons (.var 2) .nil)) (.cst (.int 2305843009213693951)))) (.cons (.ret (.lst (.cons (.var 3) (.cons (.bin .Mod (.blt .int (.cons (.bin .Add (.bin .Add (.bin .Mult (.var 4) (.cst (.int 72161))) (.bin .Mult (.bin .Mult (.cst (.int 10853)) (.var 1)) (.var 1))) (.cst (.int 2843))) .nil)) (.cst (.int 2305843009213693921))) (.cons (.cst (.int 0)) .nil))))) .nil)))), false, []⟩
def N0 : List Str := ["script", "place", "cell", "own", "small"]
def p0 : List Str := ["script", "place"]
def D0 : He.FnD := ⟨("_law_pot", none), "_law_pot", "_law_pot", defArgs (top 28), defBody (top 28), defScope (top 28)⟩
/-- _law_take -/
def d1 : Fd := ⟨2, 5, (.cons (.iff (.cmp .Gt (.idx (.var 0) (.cst (.int 0))) (.cst (.int 0))) (.cons (.asg (.tn 4) (.bin .Mod (.blt .int (.cons (.idx (.var 0) (.cst (.int 0))) .nil)) (.var 1))) (.cons (.asg (.tsub (.var 0) (.cst (.int 0))) (.bin .FloorDiv (.idx (.var 0) (.cst (.int 0))) (.var 1))) (.cons (.ret (.var 4)) .nil))) .nil) (.cons (.asg (.tsub (.var 0) (.cst (.int 2))) (.bin .Add (.idx (.var 0) (.cst (.int 2))) (.cst (.int 1)))) (.cons (.asg (.tn 2) (.idx (.lst (.cons (.cst (.int 2147483647)) (.cons (.cst (.int 2147483629)) (.cons (.cst (.int 2147483587)) (.cons (.cst (.int 2147483579)) (.cons (.cst (.int 2147483563)) .nil)))))) (.bin .Mod (.blt .int (.cons (.idx (.var 0) (.cst (.int 2))) .nil)) (.cst (.int 5))))) (.cons (.asg (.tn 3) (.bin .Mod (.blt .int (.cons (.bin .Pow (.blt .int (.cons (.bin .Add (.bin .Add (.idx (.var 0) (.cst (.int 1))) (.bin .Mult (.bin .Mult (.cst (.int 95257)) (.idx (.var 0) (.cst (.int 2)))) (.idx (.var 0) (.cst (.int 2))))) (.cst (.int 3163))) .nil)) (.cst (.int 3))) .nil)) (.var 2))) (.cons (.asg (.tn 3) (.bin .Mod (.blt .int (.cons (.bin .Mult (.var 3) (.bin .Add (.bin .Mod (.blt .int (.cons (.var 3) .nil)) (.cst (.int 13441))) (.bin .Mult (.cst (.int 419)) (.idx (.var 0) (.cst (.int 2)))))) .nil)) (.cst (.int 2305843009213693907)))) (.cons (.ret (.bin .Mod (.blt .int (.cons (.bin .FloorDiv (.var 3) (.cst (.int 229))) .nil)) (.var 1))) .nil)))))), false, []⟩
def N1 : List Str := ["pot", "upto", "prime", "blend", "digit"]
def p1 : List Str := ["pot", "upto"]
def D1 : He.FnD := ⟨("_law_take", none), "_law_take", "_law_take", defArgs (top 29), defBody (top 29), defScope (top 29)⟩
/-- _law_of -/
def d2 : Fd := ⟨2, 2, (.cons (.ret (.idx (.var 1) (.call 1 (.cons (.var 0) (.cons (.blt .len (.cons (.var 1) .nil)) .nil))))) .nil), false, []⟩
def N2 : List Str := ["pot", "some"]
def p2 : List Str := ["pot", "some"]
def D2 : He.FnD := ⟨("_law_of", none), "_law_of", "_law_of", defArgs (top 30), defBody (top 30), defScope (top 30)⟩
/-- _law_cells -/
def d3 : Fd := ⟨2, 2, (.cons (.ret (.lrg (.blt .max2 (.cons (.cst (.int 1)) (.cons (.blt .min2 (.cons (.var 1) (.cons (.blt .len (.cons (.var 0) .nil)) .nil))) .nil))))) .nil), false, []⟩
def N3 : List Str := ["script", "most"]
def p3 : List Str := ["script", "most"]
def D3 : He.FnD := ⟨("_law_cells", none), "_law_cells", "_law_cells", defArgs (top 31), defBody (top 31), defScope (top 31)⟩
/-- _law_odd -/
def d4 : Fd := ⟨1, 2, (.cons (.asg (.tn 1) (.lst (.cons (.cst .non) (.cons (.cst (.bl true)) (.cons (.cst (.bl false)) (.cons (.cst (.int 0)) (.cons (.cst (.int 1)) (.cons (.neg (.cst (.int 1))) (.cons (.cst (.int 7)) (.cons (.cst (.str "")) (.cons (.cst (.str "a")) (.cons (.cst (.str "turn")) (.cons (.tup .nil) (.cons (.lst .nil) (.cons .dct0 (.cons (.tup (.cons (.tup .nil) (.cons (.tup .nil) .nil))) (.cons (.tup (.cons (.cst (.int 0)) (.cons (.cst (.int 1)) .nil))) (.cons (.tup (.cons (.cst (.int 1)) (.cons (.cst (.int 1)) .nil))) (.cons (.tup (.cons (.cst (.int 2)) (.cons (.cst (.int 4)) .nil))) (.cons (.tup (.cons (.cst (.str "far")) .nil)) .nil)))))))))))))))))))) (.cons (.asg (.tn 1) (.bin .Add (.var 1) (.lst (.cons (.tup (.cons (.tup (.cons (.cst (.int 0)) (.cons (.cst (.int 1)) .nil))) (.cons (.tup (.cons (.cst (.int 0)) (.cons (.cst (.int 1)) .nil))) .nil))) (.cons (.tup (.cons (.tup (.cons (.cst (.int 1)) (.cons (.cst (.int 1)) .nil))) (.cons (.tup (.cons (.cst (.int 0)) (.cons (.cst (.int 1)) .nil))) .nil))) (.cons (.tup (.cons (.cst (.int 1)) (.cons (.cst (.int 0)) (.cons (.neg (.cst (.int 2))) (.cons (.cst (.int 1)) .nil))))) (.cons (.tup (.cons (.cst (.str "all")) (.cons (.tup .nil) .nil))) (.cons (.tup (.cons (.cst (.str "near")) (.cons (.cst (.int 0)) .nil))) (.cons (.tup (.cons (.cst (.int 0)) .nil)) (.cons (.tup (.cons (.cst (.str "same")) .nil)) .nil)))))))))) (.cons (.ret (.call 2 (.cons (.var 0) (.cons (.bin .Add (.var 1) (.lst (.cons (.lst (.cons (.tup (.cons (.cst (.int 1)) (.cons (.cst (.int 1)) .nil))) .nil)) .nil))) .nil)))) .nil))), false, []⟩
def N4 : List Str := ["pot", "plain"]
def p4 : List Str := ["pot"]
def D4 : He.FnD := ⟨("_law_odd", none), "_law_odd", "_law_odd", defArgs (top 32), defBody (top 32), defScope (top 32)⟩
/-- _law_all_made -/
def d5 : Fd := ⟨1, 2, (.cons (.asg (.tn 1) (.lst .nil)) (.cons (.ext (.var 1) (.lst (.cons (.exn 1 (.var 0)) (.cons (.exn 2 (.var 0)) (.cons (.exn 3 (.var 0)) (.cons (.exn 4 (.var 0)) .nil)))))) (.cons (.ext (.var 1) (.lst (.cons (.exn 5 (.var 0)) (.cons (.exn 6 (.var 0)) (.cons (.exn 7 (.var 0)) (.cons (.exn 8 (.var 0)) .nil)))))) (.cons (.ext (.var 1) (.lst (.cons (.exn 9 (.var 0)) (.cons (.exn 10 (.var 0)) (.cons (.exn 11 (.var 0)) (.cons (.exn 12 (.var 0)) .nil)))))) (.cons (.ext (.var 1) (.lst (.cons (.exn 13 (.var 0)) (.cons (.exn 14 (.var 0)) (.cons (.exn 15 (.var 0)) (.cons (.exn 16 (.var 0)) .nil)))))) (.cons (.ext (.var 1) (.lst (.cons (.exn 17 (.var 0)) (.cons (.exn 18 (.var 0)) (.cons (.exn 19 (.var 0)) (.cons (.exn 20 (.var 0)) .nil)))))) (.cons (.ext (.var 1) (.lst (.cons (.exn 21 (.var 0)) (.cons (.exn 22 (.var 0)) (.cons (.exn 23 (.var 0)) (.cons (.exn 24 (.var 0)) .nil)))))) (.cons (.ext (.var 1) (.lst (.cons (.exn 25 (.var 0)) .nil))) (.cons (.ret (.var 1)) .nil))))))))), false, []⟩
def N5 : List Str := ["value", "found"]
def p5 : List Str := ["value"]
def D5 : He.FnD := ⟨("_law_all_made", none), "_law_all_made", "_law_all_made", defArgs (top 33), defBody (top 33), defScope (top 33)⟩
/-- _law_each -/
def d6 : Fd := ⟨1, 3, (.cons (.asg (.tn 1) (.lst .nil)) (.cons (.app (.var 1) (.lc [2] (.tn 2) (.var 0) (.isx 1 (.var 2)) (.var 2))) (.cons (.app (.var 1) (.lc [2] (.tn 2) (.var 0) (.isx 2 (.var 2)) (.var 2))) (.cons (.app (.var 1) (.lc [2] (.tn 2) (.var 0) (.isx 3 (.var 2)) (.var 2))) (.cons (.app (.var 1) (.lc [2] (.tn 2) (.var 0) (.isx 4 (.var 2)) (.var 2))) (.cons (.app (.var 1) (.lc [2] (.tn 2) (.var 0) (.isx 5 (.var 2)) (.var 2))) (.cons (.app (.var 1) (.lc [2] (.tn 2) (.var 0) (.isx 6 (.var 2)) (.var 2))) (.cons (.app (.var 1) (.lc [2] (.tn 2) (.var 0) (.isx 7 (.var 2)) (.var 2))) (.cons (.app (.var 1) (.lc [2] (.tn 2) (.var 0) (.isx 8 (.var 2)) (.var 2))) (.cons (.app (.var 1) (.lc [2] (.tn 2) (.var 0) (.isx 9 (.var 2)) (.var 2))) (.cons (.app (.var 1) (.lc [2] (.tn 2) (.var 0) (.isx 10 (.var 2)) (.var 2))) (.cons (.app (.var 1) (.lc [2] (.tn 2) (.var 0) (.isx 11 (.var 2)) (.var 2))) (.cons (.app (.var 1) (.lc [2] (.tn 2) (.var 0) (.isx 12 (.var 2)) (.var 2))) (.cons (.app (.var 1) (.lc [2] (.tn 2) (.var 0) (.isx 13 (.var 2)) (.var 2))) (.cons (.app (.var 1) (.lc [2] (.tn 2) (.var 0) (.isx 14 (.var 2)) (.var 2))) (.cons (.app (.var 1) (.lc [2] (.tn 2) (.var 0) (.isx 15 (.var 2)) (.var 2))) (.cons (.app (.var 1) (.lc [2] (.tn 2) (.var 0) (.isx 16 (.var 2)) (.var 2))) (.cons (.app (.var 1) (.lc [2] (.tn 2) (.var 0) (.isx 17 (.var 2)) (.var 2))) (.cons (.app (.var 1) (.lc [2] (.tn 2) (.var 0) (.isx 18 (.var 2)) (.var 2))) (.cons (.app (.var 1) (.lc [2] (.tn 2) (.var 0) (.isx 19 (.var 2)) (.var 2))) (.cons (.app (.var 1) (.lc [2] (.tn 2) (.var 0) (.isx 20 (.var 2)) (.var 2))) (.cons (.app (.var 1) (.lc [2] (.tn 2) (.var 0) (.isx 21 (.var 2)) (.var 2))) (.cons (.app (.var 1) (.lc [2] (.tn 2) (.var 0) (.isx 22 (.var 2)) (.var 2))) (.cons (.app (.var 1) (.lc [2] (.tn 2) (.var 0) (.isx 23 (.var 2)) (.var 2))) (.cons (.app (.var 1) (.lc [2] (.tn 2) (.var 0) (.isx 24 (.var 2)) (.var 2))) (.cons (.app (.var 1) (.lc [2] (.tn 2) (.var 0) (.isx 25 (.var 2)) (.var 2))) (.cons (.ret (.var 1)) .nil))))))))))))))))))))))))))), false, []⟩
def N6 : List Str := ["told", "found", "one"]
def p6 : List Str := ["told"]
def D6 : He.FnD := ⟨("_law_each", none), "_law_each", "_law_each", defArgs (top 34), defBody (top 34), defScope (top 34)⟩
/-- _law_right -/
def d7 : Fd := ⟨1, 7, (.cons (.asg (.tn 1) (.call 4 (.cons (.var 0) .nil))) (.cons (.kil 0) (.cons (.asg (.tn 2) (.call 5 (.cons (.var 1) .nil))) (.cons (.iff (.nt (.blt .all (.cons (.lc [5] (.tn 5) (.var 2) .nil (.an (.isx 0 (.var 5)) (.isi .verr (.var 5)))) .nil))) (.cons (.ret (.cst (.bl false))) .nil) .nil) (.cons (.iff (.nt (.blt .all (.cons (.lc [5] (.tn 5) (.var 2) .nil (.cmp .Eq (.rpx (.attr (.var 5))) (.rpx (.var 1)))) .nil))) (.cons (.ret (.cst (.bl false))) .nil) .nil) (.cons (.asg (.tn 3) (.call 6 (.cons (.var 2) .nil))) (.cons (.iff (.oo (.nt (.blt .all (.cons (.lc [6] (.tn 6) (.var 3) .nil (.cmp .Eq (.blt .len (.cons (.var 6) .nil)) (.cst (.int 1)))) .nil))) (.cmp .NotEq (.lc [6] (.tn 6) (.var 3) .nil (.rpx (.idx (.var 6) (.cst (.int 0))))) (.lc [5] (.tn 5) (.var 2) .nil (.rpx (.var 5))))) (.cons (.ret (.cst (.bl false))) .nil) .nil) (.cons (.asg (.tn 4) (.exn 0 (.var 1))) (.cons (.iff (.oo (.nt (.isi .verr (.var 4))) (.cmp .NotEq (.rpx (.attr (.var 4))) (.rpx (.var 1)))) (.cons (.ret (.cst (.bl false))) .nil) .nil) (.cons (.ret (.cmp .Eq (.call 6 (.cons (.lst (.cons (.var 4) .nil)) .nil)) (.bin .Mult (.lst (.cons (.lst .nil) .nil)) (.blt .len (.cons (.var 2) .nil))))) .nil)))))))))), false, []⟩
def N7 : List Str := ["pot", "value", "told", "lots", "bare", "one", "lot"]
def p7 : List Str := ["pot"]
def D7 : He.FnD := ⟨("_law_right", none), "_law_right", "_law_right", defArgs (top 35), defBody (top 35), defScope (top 35)⟩
/-- law -/
def d8 : Fd := ⟨1, 2, (.cons (.ret (.blt .all (.cons (.lc [1] (.tn 1) (.call 3 (.cons (.var 0) (.cons (.cst (.int 3)) .nil))) .nil (.call 7 (.cons (.call 0 (.cons (.var 0) (.cons (.var 1) .nil))) .nil))) .nil))) .nil), false, []⟩
def N8 : List Str := ["script", "place"]
def p8 : List Str := ["script"]
def D8 : He.FnD := ⟨("law", none), "law", "law", defArgs (top 36), defBody (top 36), defScope (top 36)⟩
def prog : Pg := ⟨[d0, d1, d2, d3, d4, d5, d6, d7, d8], [], [], [], subP 26, cnmP nms, 100000⟩
def fnD : List He.FnD := [D0, D1, D2, D3, D4, D5, D6, D7, D8]

end K38
set_option linter.all false
set_option maxRecDepth 100000
set_option maxHeartbeats 0
namespace K38
open PySem PySem.Spec PyProof.Rows L2 EV
theorem b1 {name qual : Str} {params : Arguments} {body : List Stmt} {scope : Scope} {kV doc pm : Value} {an : Option Addr} {cdv ct : Value} {x : Str} (h : params = { posonlyargs := [], args := params.args, vararg := none, kwonlyargs := [], kw_defaults := [], kwarg := none, defaults := [] }) : True := trivial
theorem T0 : DefT nms "_law_pot" d0 D0 p0 := ⟨rfl, ⟨N0, ⟨rfl, rfl, rfl, by decide +kernel, rfl, by decide +kernel, by decide +kernel⟩, rfl, by decide +kernel⟩, rfl, fun _ _ _ _ _ _ us hl => match us, hl with | [_, _], _ => rfl, rfl⟩
theorem T1 : DefT nms "_law_take" d1 D1 p1 := ⟨rfl, ⟨N1, ⟨rfl, rfl, rfl, by decide +kernel, rfl, by decide +kernel, by decide +kernel⟩, rfl, by decide +kernel⟩, rfl, fun _ _ _ _ _ _ us hl => match us, hl with | [_, _], _ => rfl, rfl⟩
theorem T2 : DefT nms "_law_of" d2 D2 p2 := ⟨rfl, ⟨N2, ⟨rfl, rfl, rfl, by decide +kernel, rfl, by decide +kernel, by decide +kernel⟩, rfl, by decide +kernel⟩, rfl, fun _ _ _ _ _ _ us hl => match us, hl with | [_, _], _ => rfl, rfl⟩
theorem T3 : DefT nms "_law_cells" d3 D3 p3 := ⟨rfl, ⟨N3, ⟨rfl, rfl, rfl, by decide +kernel, rfl, by decide +kernel, by decide +kernel⟩, rfl, by decide +kernel⟩, rfl, fun _ _ _ _ _ _ us hl => match us, hl with | [_, _], _ => rfl, rfl⟩
theorem T4 : DefT nms "_law_odd" d4 D4 p4 := ⟨rfl, ⟨N4, ⟨rfl, rfl, rfl, by decide +kernel, rfl, by decide +kernel, by decide +kernel⟩, rfl, by decide +kernel⟩, rfl, fun _ _ _ _ _ _ us hl => match us, hl with | [_], _ => rfl, rfl⟩
theorem T5 : DefT nms "_law_all_made" d5 D5 p5 := ⟨rfl, ⟨N5, ⟨rfl, rfl, rfl, by decide +kernel, rfl, by decide +kernel, by decide +kernel⟩, rfl, by decide +kernel⟩, rfl, fun _ _ _ _ _ _ us hl => match us, hl with | [_], _ => rfl, rfl⟩
theorem T6 : DefT nms "_law_each" d6 D6 p6 := ⟨rfl, ⟨N6, ⟨rfl, rfl, rfl, by decide +kernel, rfl, by decide +kernel, by decide +kernel⟩, rfl, by decide +kernel⟩, rfl, fun _ _ _ _ _ _ us hl => match us, hl with | [_], _ => rfl, rfl⟩
theorem T7 : DefT nms "_law_right" d7 D7 p7 := ⟨rfl, ⟨N7, ⟨rfl, rfl, rfl, by decide +kernel, rfl, by decide +kernel, by decide +kernel⟩, rfl, by decide +kernel⟩, rfl, fun _ _ _ _ _ _ us hl => match us, hl with | [_], _ => rfl, rfl⟩
theorem T8 : DefT nms "law" d8 D8 p8 := ⟨rfl, ⟨N8, ⟨rfl, rfl, rfl, by decide +kernel, rfl, by decide +kernel, by decide +kernel⟩, rfl, by decide +kernel⟩, rfl, fun _ _ _ _ _ _ us hl => match us, hl with | [_], _ => rfl, rfl⟩
theorem TT (f : Nat) (x : Str) (h : nms.fns[f]? = some x) : ∃ d D ps, prog.fns[f]? = some d ∧ fnD[f]? = some D ∧ DefT nms x d D ps ∧ (f = 8 → ps = p8) := by
  match f, h with
  | 0, h => cases h; exact ⟨_, _, _, rfl, rfl, T0, fun z => by cases z⟩
  | 1, h => cases h; exact ⟨_, _, _, rfl, rfl, T1, fun z => by cases z⟩
  | 2, h => cases h; exact ⟨_, _, _, rfl, rfl, T2, fun z => by cases z⟩
  | 3, h => cases h; exact ⟨_, _, _, rfl, rfl, T3, fun z => by cases z⟩
  | 4, h => cases h; exact ⟨_, _, _, rfl, rfl, T4, fun z => by cases z⟩
  | 5, h => cases h; exact ⟨_, _, _, rfl, rfl, T5, fun z => by cases z⟩
  | 6, h => cases h; exact ⟨_, _, _, rfl, rfl, T6, fun z => by cases z⟩
  | 7, h => cases h; exact ⟨_, _, _, rfl, rfl, T7, fun z => by cases z⟩
  | 8, h => cases h; exact ⟨_, _, _, rfl, rfl, T8, fun _ => rfl⟩
  | n + 9, h => cases h
end K38
set_option linter.all false
set_option maxRecDepth 100000
set_option maxHeartbeats 0
namespace K38
open PySem PySem.Spec PyProof.Rows L2 EV
abbrev R : PySem.W.OpenRow := PySem.W.OpenLaw.row PySem.Challenge.rw_elbowsexactly_k38_errors_each_its_own
def file : Str := "/claim/cut.py"
abbrev hk : PySem.W.Hook := hookV 4 nms file fnD
def ob (s : PySem.W.SharedT) : AlE := obsV nms file fnD (frC (HandSHeadRun.getT s) 4)
theorem ob_eq (s : PySem.W.SharedT) : ob s = hk.obs s.abs := by
  have e : HandSHeadRun.getT s = s.abs.heap.get? := funext (HandSHeadRun.getT_eq s)
  show obsV nms file fnD (frC (HandSHeadRun.getT s) 4) = obsV nms file fnD (frC s.abs.heap.get? 4)
  rw [e]
def loose : List Str := nms.cls ++ (["_law_pot", "_law_take", "_law_of", "_law_cells", "_law_odd", "_law_all_made", "_law_each", "_law_right"] : List Str)
theorem run (w : World) : HandSHeadRun.RunEq R (PySem.W.view R.prog [36]) hk ob 6000 loose w := by
  intro os
  kernel_rfl
end K38
set_option linter.all false
set_option maxRecDepth 100000
set_option maxHeartbeats 4000000
namespace K38
open PySem PySem.Spec PyProof.Rows L2 EV
theorem mulOk {i j : Int} (h : i.natAbs < 2 ^ 400000) (g : j.natAbs < 2 ^ 400000) : EV.MulOk i j := by
  unfold EV.MulOk
  have l : ∀ k : Nat, k < 2 ^ 400000 → k.log2 ≤ 400000 := fun k hk => by
    by_cases hz : k = 0
    · subst hz; simp
    · exact Nat.le_of_lt ((Nat.log2_lt hz).mpr hk)
  have := l _ h
  have := l _ g
  omega
/-- the two ways of taking a digit -/
def cT : T := match d1.body with
  | .cons (.iff c _ _) _ => c
  | _ => .nil
def aT : T := match d1.body with
  | .cons (.iff _ a _) _ => a
  | _ => .nil
def rT : T := match d1.body with
  | .cons _ r => r
  | _ => .nil
def cfg (n : Nat) : Cfg := cfgOf prog (evN prog n true) (fun k cs vs h => evN prog n false k (cs ++ vs) h) false []
def back1 (L : Nat) (h : Hh) (r : Rz PV) : Rz PV := match r with
  | .ok v h1 => .ok (v.bak [0] L) (wrt [0] L [0] h1 h)
  | .ex c v h1 => .ex c (v.bak [0] L) (wrt [0] L [0] h1 h)
  | .err => .err
def ρ1 (n : Nat) (u : Int) : En := [some (.ref 0), some (.int u), none, none, none]
theorem take_eq (n : Nat) (a b : Int) : evN prog (n + 1) true 1 [.ref 0, .int 26] [.lst false [.int a, .int b, .int 0]] =
    back1 1 [.lst false [.int a, .int b, .int 0]] (endS false ((((ev (cfg n) cT).t (ρ1 n 26) [.lst false [.int a, .int b, .int 0]]).bnd fun k h => if k = true then (ev (cfg n) aT).s (ρ1 n 26) h else .ok (.nx (ρ1 n 26)) h).bnd fun f h => match f with
      | .nx ρ => (ev (cfg n) rT).s ρ h
      | f => .ok f h)) := by
  kernel_rfl
theorem take_c (n : Nat) (a b : Int) : (ev (cfg n) cT).t (ρ1 n 26) [.lst false [.int a, .int b, .int 0]] = .ok (decide (0 < a)) [.lst false [.int a, .int b, .int 0]] := by
  kernel_rfl
theorem take1 (n : Nat) {a b : Int} (h : 0 < a) : evN prog (n + 1) true 1 [.ref 0, .int 26] [.lst false [.int a, .int b, .int 0]] = .ok (.int (a.fmod 26)) [.lst false [.int (a.fdiv 26), .int b, .int 0]] := by
  rw [take_eq, take_c, decide_eq_true h]
  kernel_rfl
end K38
set_option linter.all false
set_option maxRecDepth 100000
set_option maxHeartbeats 4000000
set_option exponentiation.threshold 500000
namespace K38
open PySem PySem.Spec PyProof.Rows L2 EV
def nth : T → Nat → T
  | .cons e _, 0 => e
  | .cons _ r, n + 1 => nth r n
  | _, _ => .nil
def drp : T → Nat → T
  | t, 0 => t
  | .cons _ r, n + 1 => drp r n
  | _, _ => .nil
theorem seq_nx {C : Cfg} {e r : T} {ρ h ρ' h'} (h1 : (ev C e).s ρ h = .ok (.nx ρ') h') : (ev C (.cons e r)).s ρ h = (ev C r).s ρ' h' := by
  show ((ev C e).s ρ h).bnd _ = _
  rw [h1]
  rfl
theorem binPow {i j : Int} {h : Hh} (c : PowOk i j) : binV .Pow (.int i) (.int j) h = .ok (.int (i ^ j.toNat)) h := if_pos c
theorem binMul {i j : Int} {h : Hh} (c : EV.MulOk i j) : binV .Mult (.int i) (.int j) h = .ok (.int (i * j)) h := if_pos c
abbrev hp (a b : Int) : HV := .lst false [.int a, .int b, .int 1]
abbrev prs : HV := .lst false [.int 2147483647, .int 2147483629, .int 2147483587, .int 2147483579, .int 2147483563]
abbrev e2 (x : PV) : En := [some (.ref 0), some (.int 26), some (.int 2147483629), some x, none]
theorem r0 (n : Nat) (a b : Int) : (ev (cfg n) (nth rT 0)).s (ρ1 n 26) [.lst false [.int a, .int b, .int 0]] = .ok (.nx (ρ1 n 26)) [hp a b] := by kernel_rfl
theorem r1 (n : Nat) (a b : Int) : (ev (cfg n) (nth rT 1)).s (ρ1 n 26) [hp a b] = .ok (.nx [some (.ref 0), some (.int 26), some (.int 2147483629), none, none]) [hp a b, prs] := by kernel_rfl
theorem r2 (n : Nat) (a b : Int) : (ev (cfg n) (nth rT 2)).s [some (.ref 0), some (.int 26), some (.int 2147483629), none, none] [hp a b, prs] =
    ((((binV .Pow (.int (b + 95257 + 3163)) (.int 3) [hp a b, prs]).bnd fun x h => .ok [x] h).bnd fun vs h => bltV .int vs h).bnd fun y h => binV .Mod y (.int 2147483629) h).bnd fun v h => .ok (.nx (e2 v)) h := by kernel_rfl
theorem r3 (n : Nat) (a b B : Int) : (ev (cfg n) (nth rT 3)).s (e2 (.int B)) [hp a b, prs] =
    ((((binV .Mult (.int B) (.int (B.fmod 13441 + 419)) [hp a b, prs]).bnd fun x h => .ok [x] h).bnd fun vs h => bltV .int vs h).bnd fun y h => binV .Mod y (.int 2305843009213693907) h).bnd fun v h => .ok (.nx (e2 v)) h := by kernel_rfl
theorem r4 (n : Nat) (a b B : Int) : (ev (cfg n) (drp rT 4)).s (e2 (.int B)) [hp a b, prs] = .ok (.rt (.int ((B.fdiv 229).fmod 26))) [hp a b, prs] := by kernel_rfl
theorem fm {i j : Int} (h : 0 < j) : 0 ≤ i.fmod j ∧ i.fmod j < j := ⟨Int.fmod_nonneg_of_pos i h, Int.fmod_lt_of_pos i h⟩
theorem take_r (n : Nat) {a b : Int} (hb : 0 ≤ b) (hb2 : b < 2305843009213693921) : ∃ d, (ev (cfg n) rT).s (ρ1 n 26) [.lst false [.int a, .int b, .int 0]] = .ok (.rt (.int d)) [hp a b, prs] ∧ 0 ≤ d ∧ d < 26 := by
  have c1 : PowOk (b + 95257 + 3163) 3 := by
    refine ⟨by decide, ?_⟩
    have : (b + 95257 + 3163).natAbs.log2 ≤ 62 := by
      by_cases hz : (b + 95257 + 3163).natAbs = 0
      · rw [hz]; decide
      · exact Nat.le_of_lt ((Nat.log2_lt hz).mpr (by omega))
    show ((b + 95257 + 3163).natAbs.log2 + 1) * 3 ≤ 134217728
    omega
  have q0 : (ev (cfg n) rT).s (ρ1 n 26) [.lst false [.int a, .int b, .int 0]] = (ev (cfg n) (drp rT 1)).s (ρ1 n 26) [hp a b] := seq_nx (e := nth rT 0) (r := drp rT 1) (r0 n a b)
  have q1 := seq_nx (r := drp rT 2) (r1 n a b)
  have e2' := r2 n a b
  rw [binPow c1] at e2'
  have b1 := fm (i := (b + 95257 + 3163) ^ (3 : Int).toNat) (j := 2147483629) (by decide)
  have e2'' : (ev (cfg n) (nth rT 2)).s [some (.ref 0), some (.int 26), some (.int 2147483629), none, none] [hp a b, prs] = .ok (.nx (e2 (.int (Int.fmod ((b + 95257 + 3163) ^ (3 : Int).toNat) 2147483629)))) [hp a b, prs] := e2'.trans rfl
  generalize Int.fmod ((b + 95257 + 3163) ^ (3 : Int).toNat) 2147483629 = B at e2'' b1
  have q2 := seq_nx (r := drp rT 3) e2''
  have b2 := fm (i := B) (j := 13441) (by decide)
  have big : (2 : Nat) ^ 31 ≤ 2 ^ 400000 := Nat.pow_le_pow_right (by decide) (by decide)
  have c2 : EV.MulOk B (B.fmod 13441 + 419) := mulOk (Nat.lt_of_lt_of_le (show B.natAbs < 2 ^ 31 by omega) big) (Nat.lt_of_lt_of_le (show (B.fmod 13441 + 419).natAbs < 2 ^ 31 by omega) big)
  have e3 := r3 n a b B
  rw [binMul c2] at e3
  have e3' : (ev (cfg n) (nth rT 3)).s (e2 (.int B)) [hp a b, prs] = .ok (.nx (e2 (.int (Int.fmod (B * (B.fmod 13441 + 419)) 2305843009213693907)))) [hp a b, prs] := e3.trans rfl
  generalize Int.fmod (B * (B.fmod 13441 + 419)) 2305843009213693907 = B2 at e3'
  have q3 := seq_nx (r := drp rT 4) e3'
  have f := fm (i := B2.fdiv 229) (j := 26) (by decide)
  exact ⟨_, q0.trans (q1.trans (q2.trans (q3.trans (r4 n a b B2)))), f.1, f.2⟩
abbrev pt (a b : Int) : HV := .lst false [.int a, .int b, .int 0]
/-- the def's run over a pot alone -/
def inner (a b : Int) : Rz PV := endS false ((ev (cfg 0) d1.body).s (ρ1 0 26) [pt a b])
theorem in_eq (a b : Int) : inner a b = endS false ((((ev (cfg 0) cT).t (ρ1 0 26) [pt a b]).bnd fun k h => if k = true then (ev (cfg 0) aT).s (ρ1 0 26) h else .ok (.nx (ρ1 0 26)) h).bnd fun f h => match f with
      | .nx ρ => (ev (cfg 0) rT).s ρ h
      | f => .ok f h) := by
  kernel_rfl
theorem in1 {a b : Int} (h : 0 < a) : inner a b = .ok (.int (a.fmod 26)) [pt (a.fdiv 26) b] := by
  rw [in_eq, take_c, decide_eq_true h]
  kernel_rfl
theorem in_ok {a b : Int} (hb : 0 ≤ b) (hb2 : b < 2305843009213693921) : ∃ (d : Int) (a' b' c' : Int) (r : Bool), inner a b = .ok (.int d) (.lst false [.int a', .int b', .int c'] :: if r = true then [prs] else []) ∧ 0 ≤ d ∧ d < 26 := by
  by_cases h : 0 < a
  · have f := fm (i := a) (j := 26) (by decide)
    exact ⟨_, _, _, _, false, in1 h, f.1, f.2⟩
  · obtain ⟨d, e, f1, f2⟩ := take_r 0 (a := a) hb hb2
    refine ⟨d, a, b, 1, true, ?_, f1, f2⟩
    rw [in_eq, take_c, decide_eq_false h]
    show endS false ((ev (cfg 0) rT).s (ρ1 0 26) [pt a b]) = _
    rw [e]
    rfl
end K38
set_option linter.all false
set_option maxRecDepth 100000
set_option maxHeartbeats 4000000
namespace K38
open PySem PySem.Spec PyProof.Rows L2 EV
def stE : Rz Fl → En
  | .ok (.nx ρ) _ => ρ
  | _ => []
def stH : Rz Fl → Hh
  | .ok _ h => h
  | _ => []
def asV : Rz (List PV) → List PV
  | .ok vs _ => vs
  | _ => []
def asH : Rz (List PV) → Hh
  | .ok _ h => h
  | _ => []
/-- _law_odd up to its return -/
def oddS (a b : Int) : Rz Fl := (ev (cfg 2) (.cons (nth d4.body 0) (.cons (nth d4.body 1) .nil))).s [some (.ref 0), none] [pt a b]
def oddT : T := match drp d4.body 2 with
  | .cons (.ret (.call _ as)) _ => as
  | _ => .nil
def oddA (a b : Int) : Rz (List PV) := (ev (cfg 2) oddT).a (stE (oddS a b)) (stH (oddS a b))
def retE (n : Nat) (r : Rz PV) : Rz PV := endS false ((r.bnd fun v h => retS (cfg n) v h).bnd fun (f : Fl) (h : Hh) => match f with
  | .nx ρ => (ev (cfg n) .nil).s ρ h
  | f => .ok f h)
theorem odd_eq (a b : Int) : evN prog 3 true 4 [.ref 0] [pt a b] = back1 1 [pt a b] (retE 2 (evN prog 2 true 2 (asV (oddA a b)) (asH (oddA a b)))) := by kernel_rfl
def ofM (a b : Int) : List Nat := match grab (asH (oddA a b)) (asV (oddA a b)) with
  | some (m, _, _) => m
  | none => []
def ofH (a b : Int) : Hh := match grab (asH (oddA a b)) (asV (oddA a b)) with
  | some (_, _, h) => h
  | none => []
def backM (m : List Nat) (h : Hh) (r : Rz PV) : Rz PV := match r with
  | .ok v h1 => .ok (v.bak m h.length) (wrt m h.length m h1 h)
  | .ex c v h1 => .ex c (v.bak m h.length) (wrt m h.length m h1 h)
  | .err => .err
theorem of_eq (a b : Int) : evN prog 2 true 2 (asV (oddA a b)) (asH (oddA a b)) = backM (ofM a b) (asH (oddA a b)) (retE 1 ((evN prog 1 true 1 [.ref 0, .int 26] (ofH a b)).bnd fun y h => idxV (.ref 1) y h)) := by kernel_rfl
theorem tk_eq (a b : Int) : evN prog 1 true 1 [.ref 0, .int 26] (ofH a b) = backM [0] (ofH a b) (inner a b) := by kernel_rfl
/-- _law_right behind the value -/
def restP (a b : Int) (r : Rz PV) : Rz PV := back1 1 [pt a b] (endS false ((r.bnd fun v h => (putS (cfg 3) 1 v [some (.ref 0), none, none, none, none, none, none] h).bnd fun ρ h => .ok (Fl.nx ρ) h).bnd fun (f : Fl) (h : Hh) => match f with
  | .nx ρ => (ev (cfg 3) (drp d7.body 1)).s ρ h
  | f => .ok f h))
theorem right_eq (a b : Int) : evN prog 4 true 7 [.ref 0] [pt a b] = restP a b (evN prog 3 true 4 [.ref 0] [pt a b]) := by kernel_rfl
def allR (a b : Int) (r : Rz PV) : Rz PV := restP a b (back1 1 [pt a b] (retE 2 (backM (ofM a b) (asH (oddA a b)) (retE 1 ((backM [0] (ofH a b) r).bnd fun y h => idxV (.ref 1) y h)))))
theorem all_eq (a b : Int) : evN prog 4 true 7 [.ref 0] [pt a b] = allR a b (inner a b) := by
  rw [right_eq, odd_eq, of_eq, tk_eq]
  rfl
def isT : Rz PV → Bool
  | .ok (.bl true) _ => true
  | _ => false
theorem isT_ok {r : Rz PV} (h : isT r = true) : ∃ h, r = .ok (.bl true) h := by
  unfold isT at h
  split at h
  · exact ⟨_, rfl⟩
  · cases h
theorem t0 (a b a' b' c' : Int) : isT (allR a b (.ok (.int 0) [.lst false [.int a', .int b', .int c']])) = true := by kernel_rfl
theorem t1 (a b a' b' c' : Int) : isT (allR a b (.ok (.int 12) [.lst false [.int a', .int b', .int c'], prs])) = true := by kernel_rfl
end K38
set_option linter.all false
set_option maxRecDepth 100000
set_option maxHeartbeats 4000000
namespace K38
open PySem PySem.Spec PyProof.Rows L2 EV
abbrev CaseOk (d : Int) (p : Bool) : Prop := ∀ a b a' b' c' : Int, isT (allR a b (.ok (.int d) (.lst false [.int a', .int b', .int c'] :: if p = true then [prs] else []))) = true
theorem cf0 : CaseOk 0 false := fun a b a' b' c' => by kernel_rfl
theorem ct0 : CaseOk 0 true := fun a b a' b' c' => by kernel_rfl
theorem cf1 : CaseOk 1 false := fun a b a' b' c' => by kernel_rfl
theorem ct1 : CaseOk 1 true := fun a b a' b' c' => by kernel_rfl
theorem cf2 : CaseOk 2 false := fun a b a' b' c' => by kernel_rfl
theorem ct2 : CaseOk 2 true := fun a b a' b' c' => by kernel_rfl
theorem cf3 : CaseOk 3 false := fun a b a' b' c' => by kernel_rfl
theorem ct3 : CaseOk 3 true := fun a b a' b' c' => by kernel_rfl
theorem cf4 : CaseOk 4 false := fun a b a' b' c' => by kernel_rfl
theorem ct4 : CaseOk 4 true := fun a b a' b' c' => by kernel_rfl
theorem cf5 : CaseOk 5 false := fun a b a' b' c' => by kernel_rfl
theorem ct5 : CaseOk 5 true := fun a b a' b' c' => by kernel_rfl
theorem cf6 : CaseOk 6 false := fun a b a' b' c' => by kernel_rfl
theorem ct6 : CaseOk 6 true := fun a b a' b' c' => by kernel_rfl
theorem cf7 : CaseOk 7 false := fun a b a' b' c' => by kernel_rfl
theorem ct7 : CaseOk 7 true := fun a b a' b' c' => by kernel_rfl
theorem cf8 : CaseOk 8 false := fun a b a' b' c' => by kernel_rfl
theorem ct8 : CaseOk 8 true := fun a b a' b' c' => by kernel_rfl
theorem cf9 : CaseOk 9 false := fun a b a' b' c' => by kernel_rfl
theorem ct9 : CaseOk 9 true := fun a b a' b' c' => by kernel_rfl
theorem cf10 : CaseOk 10 false := fun a b a' b' c' => by kernel_rfl
theorem ct10 : CaseOk 10 true := fun a b a' b' c' => by kernel_rfl
theorem cf11 : CaseOk 11 false := fun a b a' b' c' => by kernel_rfl
theorem ct11 : CaseOk 11 true := fun a b a' b' c' => by kernel_rfl
theorem cf12 : CaseOk 12 false := fun a b a' b' c' => by kernel_rfl
theorem ct12 : CaseOk 12 true := fun a b a' b' c' => by kernel_rfl
theorem cf13 : CaseOk 13 false := fun a b a' b' c' => by kernel_rfl
theorem ct13 : CaseOk 13 true := fun a b a' b' c' => by kernel_rfl
theorem cf14 : CaseOk 14 false := fun a b a' b' c' => by kernel_rfl
theorem ct14 : CaseOk 14 true := fun a b a' b' c' => by kernel_rfl
theorem cf15 : CaseOk 15 false := fun a b a' b' c' => by kernel_rfl
theorem ct15 : CaseOk 15 true := fun a b a' b' c' => by kernel_rfl
theorem cf16 : CaseOk 16 false := fun a b a' b' c' => by kernel_rfl
theorem ct16 : CaseOk 16 true := fun a b a' b' c' => by kernel_rfl
theorem cf17 : CaseOk 17 false := fun a b a' b' c' => by kernel_rfl
theorem ct17 : CaseOk 17 true := fun a b a' b' c' => by kernel_rfl
theorem cf18 : CaseOk 18 false := fun a b a' b' c' => by kernel_rfl
theorem ct18 : CaseOk 18 true := fun a b a' b' c' => by kernel_rfl
theorem cf19 : CaseOk 19 false := fun a b a' b' c' => by kernel_rfl
theorem ct19 : CaseOk 19 true := fun a b a' b' c' => by kernel_rfl
theorem cf20 : CaseOk 20 false := fun a b a' b' c' => by kernel_rfl
theorem ct20 : CaseOk 20 true := fun a b a' b' c' => by kernel_rfl
theorem cf21 : CaseOk 21 false := fun a b a' b' c' => by kernel_rfl
theorem ct21 : CaseOk 21 true := fun a b a' b' c' => by kernel_rfl
theorem cf22 : CaseOk 22 false := fun a b a' b' c' => by kernel_rfl
theorem ct22 : CaseOk 22 true := fun a b a' b' c' => by kernel_rfl
theorem cf23 : CaseOk 23 false := fun a b a' b' c' => by kernel_rfl
theorem ct23 : CaseOk 23 true := fun a b a' b' c' => by kernel_rfl
theorem cf24 : CaseOk 24 false := fun a b a' b' c' => by kernel_rfl
theorem ct24 : CaseOk 24 true := fun a b a' b' c' => by kernel_rfl
theorem cf25 : CaseOk 25 false := fun a b a' b' c' => by kernel_rfl
theorem ct25 : CaseOk 25 true := fun a b a' b' c' => by kernel_rfl
theorem right_ok {a b : Int} (hb : 0 ≤ b) (hb2 : b < 2305843009213693921) : ∃ h, evN prog 4 true 7 [.ref 0] [pt a b] = .ok (.bl true) h := by
  obtain ⟨d, a', b', c', r, e, f1, f2⟩ := in_ok (a := a) hb hb2
  rw [all_eq, e]
  apply isT_ok
  have hd : d = 0 ∨ d = 1 ∨ d = 2 ∨ d = 3 ∨ d = 4 ∨ d = 5 ∨ d = 6 ∨ d = 7 ∨ d = 8 ∨ d = 9 ∨ d = 10 ∨ d = 11 ∨ d = 12 ∨ d = 13 ∨ d = 14 ∨ d = 15 ∨ d = 16 ∨ d = 17 ∨ d = 18 ∨ d = 19 ∨ d = 20 ∨ d = 21 ∨ d = 22 ∨ d = 23 ∨ d = 24 ∨ d = 25 := by omega
  rcases hd with rfl | rfl | rfl | rfl | rfl | rfl | rfl | rfl | rfl | rfl | rfl | rfl | rfl | rfl | rfl | rfl | rfl | rfl | rfl | rfl | rfl | rfl | rfl | rfl | rfl | rfl
  · cases r; exact cf0 _ _ _ _ _; exact ct0 _ _ _ _ _
  · cases r; exact cf1 _ _ _ _ _; exact ct1 _ _ _ _ _
  · cases r; exact cf2 _ _ _ _ _; exact ct2 _ _ _ _ _
  · cases r; exact cf3 _ _ _ _ _; exact ct3 _ _ _ _ _
  · cases r; exact cf4 _ _ _ _ _; exact ct4 _ _ _ _ _
  · cases r; exact cf5 _ _ _ _ _; exact ct5 _ _ _ _ _
  · cases r; exact cf6 _ _ _ _ _; exact ct6 _ _ _ _ _
  · cases r; exact cf7 _ _ _ _ _; exact ct7 _ _ _ _ _
  · cases r; exact cf8 _ _ _ _ _; exact ct8 _ _ _ _ _
  · cases r; exact cf9 _ _ _ _ _; exact ct9 _ _ _ _ _
  · cases r; exact cf10 _ _ _ _ _; exact ct10 _ _ _ _ _
  · cases r; exact cf11 _ _ _ _ _; exact ct11 _ _ _ _ _
  · cases r; exact cf12 _ _ _ _ _; exact ct12 _ _ _ _ _
  · cases r; exact cf13 _ _ _ _ _; exact ct13 _ _ _ _ _
  · cases r; exact cf14 _ _ _ _ _; exact ct14 _ _ _ _ _
  · cases r; exact cf15 _ _ _ _ _; exact ct15 _ _ _ _ _
  · cases r; exact cf16 _ _ _ _ _; exact ct16 _ _ _ _ _
  · cases r; exact cf17 _ _ _ _ _; exact ct17 _ _ _ _ _
  · cases r; exact cf18 _ _ _ _ _; exact ct18 _ _ _ _ _
  · cases r; exact cf19 _ _ _ _ _; exact ct19 _ _ _ _ _
  · cases r; exact cf20 _ _ _ _ _; exact ct20 _ _ _ _ _
  · cases r; exact cf21 _ _ _ _ _; exact ct21 _ _ _ _ _
  · cases r; exact cf22 _ _ _ _ _; exact ct22 _ _ _ _ _
  · cases r; exact cf23 _ _ _ _ _; exact ct23 _ _ _ _ _
  · cases r; exact cf24 _ _ _ _ _; exact ct24 _ _ _ _ _
  · cases r; exact cf25 _ _ _ _ _; exact ct25 _ _ _ _ _
end K38
set_option linter.all false
set_option maxRecDepth 100000
set_option maxHeartbeats 4000000
namespace K38
open PySem PySem.Spec PyProof.Rows L2 EV
theorem refs_ints : ∀ ns : List Int, PV.refss (ns.map PV.int) = []
  | [] => rfl
  | n :: ns => by
    show PV.refs (.int n) ++ PV.refss (ns.map PV.int) = []
    rw [refs_ints ns]
    rfl
theorem rens_ints (m : List Nat) : ∀ ns : List Int, PV.rens m (ns.map PV.int) = some (ns.map PV.int)
  | [] => rfl
  | n :: ns => by
    show (match PV.ren m (.int n), PV.rens m (ns.map PV.int) with
      | some y, some ys => some (y :: ys)
      | _, _ => none) = _
    rw [rens_ints m ns]
    rfl
theorem baks_ints (m : List Nat) (L : Nat) : ∀ ns : List Int, PV.baks m L (ns.map PV.int) = ns.map PV.int
  | [] => rfl
  | n :: ns => by
    show PV.bak m L (.int n) :: PV.baks m L (ns.map PV.int) = _
    rw [baks_ints m L ns]
    rfl
theorem reach1 {h : Hh} {L : Nat} {f : Bool} {ns : List Int} (e : h[L]? = some (.lst f (ns.map PV.int))) : reachF h 4000 [L] [] = some [L] := by
  show (if ([] : List Nat).contains L then _ else _) = _
  rw [if_neg (by simp)]
  show (match h[L]? with
    | some (.lst _ xs) => reachF h 3999 ([] ++ PV.refss xs) ([] ++ [L])
    | some .dct0 => reachF h 3999 [] ([] ++ [L])
    | _ => none) = _
  rw [e]
  show reachF h 3999 ([] ++ PV.refss (ns.map PV.int)) ([] ++ [L]) = _
  rw [refs_ints]
  rfl
/-- a call by one list of ints, and ints -/
theorem grab1 {h : Hh} {L : Nat} {f : Bool} {ns ks : List Int} (e : h[L]? = some (.lst f (ns.map PV.int))) : grab h (.ref L :: ks.map PV.int) = some ([L], .ref 0 :: ks.map PV.int, [.lst f (ns.map PV.int)]) := by
  unfold grab
  have e1 : PV.refss (.ref L :: ks.map PV.int) = [L] := by
    show [L] ++ PV.refss (ks.map PV.int) = [L]
    rw [refs_ints]
    rfl
  have e2 : PV.rens [L] (.ref L :: ks.map PV.int) = some (.ref 0 :: ks.map PV.int) := by
    show (match PV.ren [L] (.ref L), PV.rens [L] (ks.map PV.int) with
      | some y, some ys => some (y :: ys)
      | _, _ => none) = _
    rw [rens_ints]
    have : PV.ren [L] (.ref L) = some (.ref 0) := by
      show (match (if L == L then some 0 else posOf L [] 1) with
        | some k => some (PV.ref k)
        | none => none) = _
      rw [if_pos (beq_self_eq_true L)]
    rw [this]
  have e3 : renH [L] h [L] = some [.lst f (ns.map PV.int)] := by
    show (match h[L]? with
      | some o => match HV.ren [L] o, some [] with
        | some u, some us => some (u :: us)
        | _, _ => none
      | none => none) = _
    rw [e]
    show (match (match PV.rens [L] (ns.map PV.int) with
        | some ys => some (HV.lst f ys)
        | none => none), some [] with
        | some u, some us => some (u :: us)
        | _, _ => none) = _
    rw [rens_ints]
  rw [e1, reach1 e]
  show (if nodupB [L] = true then _ else _) = _
  rw [if_pos (by rfl)]
  show (match PV.rens [L] (.ref L :: ks.map PV.int), renH [L] h [L] with
      | some as, some h0 => some ([L], as, h0)
      | _, _ => none) = _
  rw [e2, e3]
/-- what a def does over a heap of its own -/
def runB (n : Nat) (d : Fd) (as : List PV) (h0 : Hh) : Rz PV := endS false ((ev (cfg n) d.body).s (as.map some ++ List.replicate (d.ns - d.np) none) h0)
theorem call1 {n f : Nat} {d : Fd} {h : Hh} {L : Nat} {g : Bool} {ns ks : List Int} {v : PV} {h1 : Hh} (hf : prog.fns[f]? = some d) (hl : ks.length + 1 = d.np) (hfl : d.flag = false) (hcd : d.capd = []) (e : h[L]? = some (.lst g (ns.map PV.int)))
    (r : runB n d (.ref 0 :: ks.map PV.int) [.lst g (ns.map PV.int)] = .ok v h1) : evN prog (n + 1) true f (.ref L :: ks.map PV.int) h = .ok (v.bak [L] h.length) (wrt [L] h.length [L] h1 h) := by
  show (match prog.fns[f]? with
    | some d => if (PV.ref L :: ks.map PV.int).length = d.np then runF prog (evN prog n true) (fun k cs vs h => evN prog n false k (cs ++ vs) h) d (.ref L :: ks.map PV.int) h else .err
    | none => .err) = _
  rw [hf]
  show (if (PV.ref L :: ks.map PV.int).length = d.np then runF prog (evN prog n true) (fun k cs vs h => evN prog n false k (cs ++ vs) h) d (.ref L :: ks.map PV.int) h else .err) = _
  rw [if_pos (by rw [List.length_cons, List.length_map]; exact hl)]
  unfold runF lcl
  rw [grab1 e, hfl, hcd]
  unfold runB at r
  unfold cfg at r
  show (match endS false ((ev (cfgOf prog (evN prog n true) (fun k cs vs h => evN prog n false k (cs ++ vs) h) false []) d.body).s ((PV.ref 0 :: ks.map PV.int).map some ++ List.replicate (d.ns - d.np) none) [.lst g (ns.map PV.int)]) with
    | .ok v h1 => Rz.ok (v.bak [L] h.length) (wrt [L] h.length [L] h1 h)
    | .ex c v h1 => .ex c (v.bak [L] h.length) (wrt [L] h.length [L] h1 h)
    | .err => .err) = _
  rw [r]
end K38
set_option linter.all false
set_option maxRecDepth 100000
set_option maxHeartbeats 4000000
set_option exponentiation.threshold 500000
namespace K38
open PySem PySem.Spec PyProof.Rows L2 EV
abbrev Sv (ns : List Int) : HV := .lst true (ns.map PV.int)
theorem seq_rt {C : Cfg} {e r : T} {ρ h v h'} (h1 : (ev C e).s ρ h = .ok (.rt v) h') : (ev C (.cons e r)).s ρ h = .ok (.rt v) h' := by
  show ((ev C e).s ρ h).bnd _ = _
  rw [h1]
  rfl
theorem at0 {ns : List Int} {k : Nat} (hk : k < ns.length) : atI (ns.map PV.int) (k : Int) = some (.int ns[k]) := by
  unfold atI ixN
  simp [hk]
theorem idx0 {ns : List Int} {k : Nat} (hk : k < ns.length) : idxV (.ref 0) (.int k) [Sv ns] = .ok (.int ns[k]) [Sv ns] := by
  show (match atI (ns.map PV.int) (k : Int) with
    | some v => Rz.ok v [Sv ns]
    | none => .err) = _
  rw [at0 hk]
def pcT : T := match d0.body with
  | .cons (.asg _ (.ife c _ _)) _ => c
  | _ => .nil
def pbT : T := match d0.body with
  | .cons (.asg _ (.ife _ _ b)) _ => b
  | _ => .nil
abbrev q0 (k : PV) : En := [some (.ref 0), some k, none, none, none]
abbrev q1 (k c : PV) : En := [some (.ref 0), some k, some c, none, none]
abbrev q2 (k c o : PV) : En := [some (.ref 0), some k, some c, some o, none]
abbrev q3 (k c o s : PV) : En := [some (.ref 0), some k, some c, some o, some s]
theorem pc (ns : List Int) (k : Nat) : (ev (cfg 3) pcT).t (q0 (.int k)) [Sv ns] = .ok (decide ((k : Int) < ((ns.map PV.int).length : Nat))) [Sv ns] := by
  kernel_rfl
theorem ps0 (ns : List Int) (k : PV) : (ev (cfg 3) (nth d0.body 0)).s (q0 k) [Sv ns] =
    ((((ev (cfg 3) pcT).t (q0 k) [Sv ns]).bnd fun b h => if b = true then idxV (.ref 0) k h else (ev (cfg 3) pbT).e (q0 k) h).bnd fun v h => .ok (.nx (q1 k v)) h) := by
  kernel_rfl
theorem pot0 {ns : List Int} {k : Nat} (hk : k < ns.length) : (ev (cfg 3) (nth d0.body 0)).s (q0 (.int k)) [Sv ns] = .ok (.nx (q1 (.int k) (.int ns[k]))) [Sv ns] := by
  rw [ps0, pc, decide_eq_true (by rw [List.length_map]; omega)]
  show ((idxV (.ref 0) (.int k) [Sv ns]).bnd _) = _
  rw [idx0 hk]
  rfl
def BIG : Int := ((10 : Int) ^ (60 : Int).toNat) ^ (5 : Int).toNat
theorem BIG_pos : 0 < BIG := by decide +kernel
theorem BIG_lt : BIG.natAbs < 2 ^ 1000 := by decide +kernel
theorem ps1 (S : HV) (k : PV) (c : Int) : (ev (cfg 3) (nth d0.body 1)).s (q1 k (.int c)) [S] =
    ((binV .Mult (.int (Int.fmod (if c < 0 then -c else c) BIG)) (.int (b2 (decide ((10 : Int) ^ (18 : Int).toNat ≤ (if c < 0 then -c else c))))) [S]).bnd fun v h => .ok (.nx (q2 k (.int c) v)) h) := by
  kernel_rfl
theorem pot1 (S : HV) (k : PV) (c : Int) : ∃ A, (ev (cfg 3) (nth d0.body 1)).s (q1 k (.int c)) [S] = .ok (.nx (q2 k (.int c) (.int A))) [S] := by
  have b := fm (i := if c < 0 then -c else c) BIG_pos
  have l := BIG_lt
  have e := ps1 S k c
  have big : (2 : Nat) ^ 1000 ≤ 2 ^ 400000 := Nat.pow_le_pow_right (by decide) (by decide)
  have big1 : (2 : Nat) ^ 1 ≤ 2 ^ 400000 := Nat.pow_le_pow_right (by decide) (by decide)
  generalize Int.fmod (if c < 0 then -c else c) BIG = X at b e
  generalize decide ((10 : Int) ^ (18 : Int).toNat ≤ (if c < 0 then -c else c)) = Y at e
  have m : EV.MulOk X (b2 Y) := mulOk (Nat.lt_of_lt_of_le (show X.natAbs < 2 ^ 1000 from Nat.lt_trans (show X.natAbs < BIG.natAbs by omega) l) big) (Nat.lt_of_lt_of_le (show (b2 Y).natAbs < 2 ^ 1 by cases Y <;> decide) big1)
  rw [binMul m] at e
  exact ⟨_, e.trans rfl⟩
theorem pot2 (S : HV) (k o : PV) (c : Int) : (ev (cfg 3) (nth d0.body 2)).s (q2 k (.int c) o) [S] = .ok (.nx (q3 k (.int c) o (.int (c.fmod 2305843009213693951)))) [S] := by
  kernel_rfl
def p3K (S : HV) (o : PV) (K : Int) (r : Rz PV) : Rz Fl := (((((((((r.bnd fun x h => binV .Add x (.int K) h).bnd fun x h => binV .Add x (.int 2843) h).bnd fun x h => .ok [x] h).bnd fun vs h => bltV .int vs h).bnd fun y h => binV .Mod y (.int 2305843009213693921) h).bnd fun v h => .ok [v, .int 0] h).bnd fun vs h => .ok (o :: vs) h).bnd fun vs h => if vs.length ≤ sizeLine then newL vs h else .err).bnd fun v h => .ok (.rt v) h)
theorem ps3a (S : HV) (o c : PV) (s : Int) : (ev (cfg 3) (nth d0.body 3)).s (q3 (.int 0) c o (.int s)) [S] = p3K S o 0 (binV .Mult (.int s) (.int 72161) [S]) := by
  kernel_rfl
theorem ps3b (S : HV) (o c : PV) (s : Int) : (ev (cfg 3) (nth d0.body 3)).s (q3 (.int 1) c o (.int s)) [S] = p3K S o 10853 (binV .Mult (.int s) (.int 72161) [S]) := by
  kernel_rfl
theorem ps3c (S : HV) (o c : PV) (s : Int) : (ev (cfg 3) (nth d0.body 3)).s (q3 (.int 2) c o (.int s)) [S] = p3K S o 43412 (binV .Mult (.int s) (.int 72161) [S]) := by
  kernel_rfl
set_option maxRecDepth 100000 in
theorem p3k (S : HV) (A K s : Int) (h1 : 0 ≤ s) (h2 : s < 2305843009213693951) : ∃ B, p3K S (.int A) K (binV .Mult (.int s) (.int 72161) [S]) = .ok (.rt (.ref 1)) [S, pt A B] ∧ 0 ≤ B ∧ B < 2305843009213693921 := by
  have big : (2 : Nat) ^ 100 ≤ 2 ^ 400000 := Nat.pow_le_pow_right (by decide) (by decide)
  have m : EV.MulOk s 72161 := mulOk (Nat.lt_of_lt_of_le (show s.natAbs < 2 ^ 100 by omega) big) (Nat.lt_of_lt_of_le (show (72161 : Int).natAbs < 2 ^ 100 by decide) big)
  rw [binMul m]
  have b := fm (i := s * 72161 + K + 2843) (j := 2305843009213693921) (by decide)
  exact ⟨_, rfl, b.1, b.2⟩
theorem pot3 (S : HV) (A : Int) (c : PV) (k : Nat) (hk : k < 3) (s : Int) (h1 : 0 ≤ s) (h2 : s < 2305843009213693951) : ∃ B, (ev (cfg 3) (nth d0.body 3)).s (q3 (.int k) c (.int A) (.int s)) [S] = .ok (.rt (.ref 1)) [S, pt A B] ∧ 0 ≤ B ∧ B < 2305843009213693921 := by
  match k, hk with
  | 0, _ => exact ps3a S (.int A) c s ▸ p3k S A _ s h1 h2
  | 1, _ => exact ps3b S (.int A) c s ▸ p3k S A _ s h1 h2
  | 2, _ => exact ps3c S (.int A) c s ▸ p3k S A _ s h1 h2
theorem pot_ok {ns : List Int} {k : Nat} (hk : k < ns.length) (hk3 : k < 3) : ∃ A B, runB 3 d0 [.ref 0, .int k] [Sv ns] = .ok (.ref 1) [Sv ns, pt A B] ∧ 0 ≤ B ∧ B < 2305843009213693921 := by
  obtain ⟨A, e1⟩ := pot1 (Sv ns) (.int k) ns[k]
  have f := fm (i := ns[k]) (j := 2305843009213693951) (by decide)
  obtain ⟨B, e3, b1, b2⟩ := pot3 (Sv ns) A (.int ns[k]) k hk3 (Int.fmod ns[k] 2305843009213693951) f.1 f.2
  refine ⟨A, B, ?_, b1, b2⟩
  have z : (ev (cfg 3) d0.body).s (q0 (.int k)) [Sv ns] = .ok (.rt (.ref 1)) [Sv ns, pt A B] :=
    (seq_nx (e := nth d0.body 0) (r := drp d0.body 1) (pot0 hk)).trans ((seq_nx (e := nth d0.body 1) (r := drp d0.body 2) e1).trans ((seq_nx (e := nth d0.body 2) (r := drp d0.body 3) (pot2 _ _ _ _)).trans (seq_rt (e := nth d0.body 3) (r := drp d0.body 4) e3)))
  show endS false ((ev (cfg 3) d0.body).s (q0 (.int k)) [Sv ns]) = _
  rw [z]
  rfl
end K38
set_option linter.all false
set_option maxRecDepth 100000
set_option maxHeartbeats 4000000
namespace K38
open PySem PySem.Spec PyProof.Rows L2 EV
abbrev itL (N : Nat) : HV := .lst false ((List.range N).map fun (k : Nat) => PV.int (k : Int))
def mx (L : Int) : Int := if (if L < 3 then L else 3) > 1 then (if L < 3 then L else 3) else 1
theorem cells_eq (ns : List Int) : runB 3 d3 [.ref 0, .int 3] [Sv ns] = endS false (((lrngV (.int (mx ((ns.map PV.int).length : Nat))) [Sv ns]).bnd fun v h => .ok (Fl.rt v) h).bnd fun (f : Fl) (h : Hh) => match f with
  | .nx ρ => (ev (cfg 3) .nil).s ρ h
  | f => .ok f h) := by
  kernel_rfl
theorem mx_ok (L : Nat) (h : 1 ≤ L) : ∃ N : Nat, 1 ≤ N ∧ N ≤ 3 ∧ N ≤ L ∧ mx (L : Int) = (N : Int) := by
  unfold mx
  by_cases h3 : (L : Int) < 3
  · rw [if_pos h3]
    by_cases h1 : (L : Int) > 1
    · rw [if_pos h1]; exact ⟨L, by omega, by omega, by omega, rfl⟩
    · rw [if_neg h1]; exact ⟨1, by omega, by omega, by omega, rfl⟩
  · rw [if_neg h3, if_pos (by omega)]; exact ⟨3, by omega, by omega, by omega, rfl⟩
theorem cells_ok {ns : List Int} (h : 1 ≤ ns.length) : ∃ N : Nat, N ≤ 3 ∧ N ≤ ns.length ∧ runB 3 d3 [.ref 0, .int 3] [Sv ns] = .ok (.ref 1) [Sv ns, itL N] := by
  obtain ⟨N, h1, h3, hL, e⟩ := mx_ok ns.length h
  refine ⟨N, h3, hL, ?_⟩
  rw [cells_eq, List.length_map, e]
  have : lrngV (.int (N : Int)) [Sv ns] = newL ((List.range N).map fun (k : Nat) => PV.int (k : Int)) [Sv ns] := by
    show (if 0 ≤ (N : Int) ∧ (N : Int) ≤ 1000000 then newL ((List.range (N : Int).toNat).map fun (k : Nat) => PV.int (k : Int)) [Sv ns] else .err) = _
    rw [if_pos ⟨by omega, by omega⟩]
    rfl
  rw [this]
  rfl
def elT : T := match d8.body with
  | .cons (.ret (.blt _ (.cons (.lc _ _ _ _ el) _))) _ => el
  | _ => .nil
theorem bak_int1 (L : Nat) (ns : List Int) (f : Bool) : HV.bak [0] L (.lst f (ns.map PV.int)) = .lst f (ns.map PV.int) := by
  show HV.lst f (PV.baks [0] L (ns.map PV.int)) = _
  rw [baks_ints]
theorem right7 (a b : Int) : evN prog 4 true 7 [.ref 0] [pt a b] = back1 1 [pt a b] (runB 3 d7 [.ref 0] [pt a b]) := by kernel_rfl
theorem bakT {v : PV} {m : List Nat} {L : Nat} (h : v.bak m L = .bl true) : v = .bl true := by
  cases v <;> simp [PV.bak] at h
  rw [h]
theorem right_run {a b : Int} (hb : 0 ≤ b) (hb2 : b < 2305843009213693921) : ∃ h, runB 3 d7 [.ref 0] [pt a b] = .ok (.bl true) h := by
  obtain ⟨h, e⟩ := right_ok (a := a) hb hb2
  rw [right7] at e
  generalize runB 3 d7 [.ref 0] [pt a b] = r at e
  match r, e with
  | .ok v h1, e =>
    have : v.bak [0] 1 = .bl true := by
      have e' : Rz.ok (v.bak [0] 1) (wrt [0] 1 [0] h1 [pt a b]) = Rz.ok (.bl true) h := e
      injection e'
    exact ⟨h1, by rw [bakT this]⟩
theorem wrt_get {m : List Nat} {n L : Nat} {h1 h : Hh} {j : Nat} (hj : j < L) (hL : L < h.length) : (wrt m n [L] h1 h)[j]? = h[j]? := by
  match h1 with
  | [] => rfl
  | o :: os =>
    show (h.set L (o.bak m n) ++ os.map (HV.bak m n))[j]? = _
    rw [List.getElem?_append_left (by rw [List.length_set]; omega), List.getElem?_set_ne (by omega)]
theorem el_eq (k : PV) (H : Hh) : (ev (cfg 4) elT).e [some (.ref 0), some k] H = ((evN prog 4 true 0 [.ref 0, k] H).bnd fun x h => .ok [x] h).bnd fun vs h => evN prog 4 true 7 vs h := by kernel_rfl
theorem wrt_len {m : List Nat} {n L : Nat} {h1 h : Hh} : h.length ≤ (wrt m n [L] h1 h).length := by
  match h1 with
  | [] => exact Nat.le_refl _
  | o :: os =>
    show h.length ≤ (h.set L (o.bak m n) ++ os.map (HV.bak m n)).length
    rw [List.length_append, List.length_set]
    omega
theorem el_ok {ns : List Int} {k : Nat} (hk : k < ns.length) (hk3 : k < 3) {H : Hh} (h0 : H[0]? = some (Sv ns)) (hL : 3 ≤ H.length) : ∃ H', (ev (cfg 4) elT).e [some (.ref 0), some (.int k)] H = .ok (.bl true) H' ∧ 3 ≤ H'.length ∧ ∀ j, j < 3 → H'[j]? = H[j]? := by
  obtain ⟨A, B, e, b1, b2⟩ := pot_ok hk hk3
  have c := call1 (n := 3) (f := 0) (d := d0) (h := H) (L := 0) (g := true) (ns := ns) (ks := [(k : Int)]) (v := .ref 1) (h1 := [Sv ns, pt A B]) rfl rfl rfl rfl h0 e
  have c' : evN prog 4 true 0 [.ref 0, .int k] H = .ok (.ref H.length) (H.set 0 (Sv ns) ++ [pt A B]) := by
    refine c.trans ?_
    show Rz.ok (PV.ref (H.length + 0)) (H.set 0 (HV.bak [0] H.length (Sv ns)) ++ [HV.bak [0] H.length (pt A B)]) = _
    rw [bak_int1]
    rfl
  have hs : (H.set 0 (Sv ns)) = H := by
    apply List.ext_getElem?
    intro j
    by_cases hj : j = 0
    · subst hj; rw [List.getElem?_set_self (by omega), h0]
    · rw [List.getElem?_set_ne (by omega)]
  rw [hs] at c'
  obtain ⟨h2, r⟩ := right_run (a := A) b1 b2
  have d := call1 (n := 3) (f := 7) (d := d7) (h := H ++ [pt A B]) (L := H.length) (g := false) (ns := [A, B, 0]) (ks := []) (v := .bl true) (h1 := h2) rfl rfl rfl rfl (by rw [List.getElem?_append_right (Nat.le_refl _), Nat.sub_self]; rfl) r
  refine ⟨wrt [H.length] (H ++ [pt A B]).length [H.length] h2 (H ++ [pt A B]), ?_, ?_, ?_⟩
  · rw [el_eq, c']
    exact d
  · exact Nat.le_trans (by rw [List.length_append]; omega) wrt_len
  · intro j hj
    rw [wrt_get (by omega) (by rw [List.length_append]; simp), List.getElem?_append_left (by omega)]
theorem it_get (N k : Nat) : ((List.range N).map fun (k : Nat) => PV.int (k : Int))[k]? = if k < N then some (.int (k : Int)) else none := by
  by_cases h : k < N
  · simp [h]
  · simp [h]
abbrev cl (m k : Nat) (H : Hh) : Rz PV := compL (ev (cfg 4) (.tn 1)).g (ev (cfg 4) .nil).t (ev (cfg 4) elT).e (.ref 1) [some (.ref 0), none] 2 m k H
theorem loop {ns : List Int} {N : Nat} (hN : N ≤ 3) (hn : N ≤ ns.length) : ∀ (j k m : Nat) (H : Hh), k + j = N → j < m → H[0]? = some (Sv ns) → H[1]? = some (itL N) → H[2]? = some (.lst false (List.replicate k (.bl true))) → 3 ≤ H.length → ∃ H', cl m k H = .ok (.ref 2) H' ∧ H'[2]? = some (.lst false (List.replicate N (.bl true)))
  | 0, k, m + 1, H, e, _, h0, h1, h2, hL => by
    have hi : itemAt (It.ref 1) k H = some none := by
      show (match getL H 1 with
        | some xs => some xs[k]?
        | none => none) = _
      have : getL H 1 = some ((List.range N).map fun (k : Nat) => PV.int (k : Int)) := by
        unfold getL
        rw [h1]
      rw [this]
      show some (((List.range N).map fun (k : Nat) => PV.int (k : Int))[k]?) = _
      rw [it_get, if_neg (by omega)]
    refine ⟨H, ?_, ?_⟩
    · show (match itemAt (It.ref 1) k H with
        | none => Rz.err
        | some none => .ok (PV.ref 2) H
        | some (some v) => _) = _
      rw [hi]
    · rw [h2]
      have : k = N := by omega
      rw [this]
  | j + 1, k, m + 1, H, e, hm, h0, h1, h2, hL => by
    have hi : itemAt (It.ref 1) k H = some (some (.int (k : Int))) := by
      show (match getL H 1 with
        | some xs => some xs[k]?
        | none => none) = _
      have : getL H 1 = some ((List.range N).map fun (k : Nat) => PV.int (k : Int)) := by
        unfold getL
        rw [h1]
      rw [this]
      show some (((List.range N).map fun (k : Nat) => PV.int (k : Int))[k]?) = _
      rw [it_get, if_pos (by omega)]
    obtain ⟨H1, e1, l1, g1⟩ := el_ok (ns := ns) (k := k) (by omega) (by omega) h0 hL
    have hf : isFl H1 2 = some (List.replicate k (.bl true)) := by
      unfold isFl
      rw [g1 2 (by omega), h2]
    obtain ⟨H', e2, r2⟩ := loop (ns := ns) hN hn j (k + 1) m (H1.set 2 (.lst false (List.replicate k (PV.bl true) ++ [PV.bl true]))) (by omega) (by omega)
      (by rw [List.getElem?_set_ne (by omega), g1 0 (by omega), h0]) (by rw [List.getElem?_set_ne (by omega), g1 1 (by omega), h1]) (by rw [List.getElem?_set_self (by omega), List.replicate_succ']) (by rw [List.length_set]; exact l1)
    refine ⟨H', ?_, r2⟩
    refine Eq.trans ?_ e2
    have step : cl (m + 1) k H = match itemAt (It.ref 1) k H with
      | none => .err
      | some none => .ok (.ref 2) H
      | some (some v) => ((ev (cfg 4) (.tn 1)).g v [some (.ref 0), none] H).bnd fun ρ h => ((ev (cfg 4) .nil).t ρ h).bnd fun b h => match b with
        | false => cl m (k + 1) h
        | true => ((ev (cfg 4) elT).e ρ h).bnd fun y h => match isFl h 2 with
          | some acc => if acc.length < sizeLine then cl m (k + 1) (h.set 2 (.lst false (acc ++ [y]))) else .err
          | none => .err := rfl
    rw [step, hi]
    show (((ev (cfg 4) elT).e [some (.ref 0), some (.int k)] H).bnd fun y h => match isFl h 2 with
          | some acc => if acc.length < sizeLine then cl m (k + 1) (h.set 2 (.lst false (acc ++ [y]))) else .err
          | none => .err) = _
    rw [e1]
    show (match isFl H1 2 with
          | some acc => if acc.length < sizeLine then cl m (k + 1) (H1.set 2 (.lst false (acc ++ [PV.bl true]))) else .err
          | none => .err) = _
    rw [hf]
    show (if (List.replicate k (PV.bl true)).length < sizeLine then cl m (k + 1) (H1.set 2 (.lst false (List.replicate k (PV.bl true) ++ [PV.bl true]))) else .err) = _
    rw [if_pos]
    rw [List.length_replicate]
    unfold sizeLine
    omega
end K38
set_option linter.all false
set_option maxRecDepth 100000
set_option maxHeartbeats 4000000
namespace K38
open PySem PySem.Spec PyProof.Rows L2 EV
/-- law behind its places -/
def lawC (S : HV) (r : Rz EV.It) : Rz PV := endS false ((((((r.bnd fun it h => if (!false || it.noClo) = true then (compL (ev (cfg 4) (.tn 1)).g (ev (cfg 4) .nil).t (ev (cfg 4) elT).e it [some (.ref 0), none] h.length 100000 0 (h ++ [.lst false []])).nox else .err).bnd fun v h => .ok [v] h).bnd fun vs h => bltV .all vs h).bnd fun v h => .ok (Fl.rt v) h).bnd fun (f : Fl) (h : Hh) => match f with
  | .nx ρ => (ev (cfg 4) .nil).s ρ h
  | f => .ok f h))
def toIt (r : Rz PV) : Rz EV.It := r.bnd fun v h => match v with
    | .tup xs => .ok (.fix xs) h
    | .ref n => match getL h n with
      | some _ => .ok (.ref n) h
      | none => .err
    | _ => .err
theorem law_eq (S : HV) : runB 4 d8 [.ref 0] [S] = lawC S (toIt (evN prog 4 true 3 [.ref 0, .int 3] [S])) := by kernel_rfl
theorem bls_rep : ∀ N : Nat, blsP (List.replicate N (PV.bl true)) = some (List.replicate N true)
  | 0 => rfl
  | n + 1 => by
    rw [List.replicate_succ]
    show (match blsP (List.replicate n (PV.bl true)) with
      | some l => some (true :: l)
      | none => none) = _
    rw [bls_rep n]
    rfl
theorem all_rep (N : Nat) : (List.replicate N true).all id = true := by
  rw [List.all_eq_true]
  intro x hx
  rw [(List.mem_replicate.mp hx).2]
  rfl
theorem law_nil : isT (evN prog 5 true 8 [.ref 0] [.lst true []]) = true := by kernel_rfl
theorem law_run {ns : List Int} (h : 1 ≤ ns.length) : ∃ H, runB 4 d8 [.ref 0] [Sv ns] = .ok (.bl true) H := by
  obtain ⟨N, h3, hn, e⟩ := cells_ok h
  have c := call1 (n := 3) (f := 3) (d := d3) (h := [Sv ns]) (L := 0) (g := true) (ns := ns) (ks := [3]) (v := .ref 1) (h1 := [Sv ns, itL N]) rfl rfl rfl rfl rfl e
  have c' : evN prog 4 true 3 [.ref 0, .int 3] [Sv ns] = .ok (.ref 1) [Sv ns, itL N] := by
    refine c.trans ?_
    have b2 : HV.bak [0] 1 (itL N) = itL N := by
      have : (List.range N).map (fun (k : Nat) => PV.int (k : Int)) = ((List.range N).map fun (k : Nat) => (k : Int)).map PV.int := by rw [List.map_map]; rfl
      show HV.bak [0] 1 (.lst false ((List.range N).map (fun (k : Nat) => PV.int (k : Int)))) = _
      rw [this, bak_int1, ← this]
    show Rz.ok (PV.ref 1) ([HV.bak [0] 1 (Sv ns)] ++ [HV.bak [0] 1 (itL N)]) = _
    rw [bak_int1, b2]
    rfl
  rw [law_eq, c']
  obtain ⟨H', e1, r1⟩ := loop (ns := ns) h3 hn N 0 100000 [Sv ns, itL N, .lst false []] (by omega) (by omega) rfl rfl rfl (Nat.le_refl _)
  have z : lawC (Sv ns) (toIt (.ok (.ref 1) [Sv ns, itL N])) = endS false (((((cl 100000 0 [Sv ns, itL N, .lst false []]).nox.bnd fun v h => .ok [v] h).bnd fun vs h => bltV .all vs h).bnd fun v h => .ok (Fl.rt v) h).bnd fun (f : Fl) (h : Hh) => match f with
  | .nx ρ => (ev (cfg 4) .nil).s ρ h
  | f => .ok f h) := by kernel_rfl
  rw [z, e1]
  have a : allV (.ref 2) H' = .ok (.bl true) H' := by
    have g : lstV H' (.ref 2) = some (List.replicate N (PV.bl true)) := by
      show getL H' 2 = _
      unfold getL
      rw [r1]
    unfold allV
    rw [g]
    show (match blsP (List.replicate N (PV.bl true)) with
      | some l => Rz.ok (PV.bl (l.all id)) H'
      | none => .err) = _
    rw [bls_rep]
    show Rz.ok (PV.bl ((List.replicate N true).all id)) H' = _
    rw [all_rep]
  refine ⟨H', ?_⟩
  show endS false ((((allV (.ref 2) H').bnd fun v h => .ok (Fl.rt v) h).bnd fun (f : Fl) (h : Hh) => match f with
  | .nx ρ => (ev (cfg 4) .nil).s ρ h
  | f => .ok f h)) = _
  rw [a]
  rfl
theorem law_ev (ns : List Int) (hl : ns.length ≤ 63) : ∃ h, evN prog 5 true 8 [.ref 0] [.lst true (ns.map PV.int)] = .ok (.bl true) h := by
  match ns, hl with
  | [], _ => exact isT_ok law_nil
  | n :: r, _ =>
    obtain ⟨H, e⟩ := law_run (ns := n :: r) (by simp)
    have c := call1 (n := 4) (f := 8) (d := d8) (h := [Sv (n :: r)]) (L := 0) (g := true) (ns := n :: r) (ks := []) (v := .bl true) (h1 := H) rfl rfl rfl rfl rfl e
    exact ⟨_, c⟩
end K38
set_option linter.all false
set_option maxRecDepth 100000
set_option maxHeartbeats 0
open PySem PySem.W PySem.Calls PyProof.Rows
set_option Elab.async false
theorem PySem.Challenge.cw_elbowsexactly_k38_errors_each_its_own_holds : PySem.Challenge.rw_elbowsexactly_k38_errors_each_its_own.Holds := by
  w_on; o_law
  refine HandSHeadRun.head_any (r := K38.R) (q := view K38.R.prog [36]) (H := K38.hk) (ob := K38.ob) (M := 6000) (loose := K38.loose) (d := HandSHeadRun.topDef K38.R.prog 36) (kwd := []) K38.ob_eq
    (by kernel_rfl) (fun s => by kernel_rfl) K38.run (by kernel_rfl) (by kernel_rfl) (by kernel_rfl) (by rfl) (by first | assumption | decide +kernel) (by decide +kernel) ⟨rfl, rfl, rfl, rfl, rfl, by decide +kernel⟩ ?hw ?hc
  case hw => w_witness2
  case hc =>
    refine EV.walk_ev (l := PySem.Challenge.rw_elbowsexactly_k38_errors_each_its_own) (n := 63) (dep := 5) (f := 8) (x := "script") (M := K38.nms) (P := K38.prog) rfl (by decide) (by kernel_rfl) ⟨rfl, by decide, by decide⟩ ?F K38.law_ev
    intro w mg fa h Y G hmg0
    obtain ⟨K, KX, nl, c⟩ := Y
    have hmg : mg ("law" : PySem.Str) = some (.ref fa) := by
      have e : (HandSHeadRun.topDef K38.R.prog 36).name = ("law" : PySem.Str) := by kernel_rfl
      rw [← e]
      exact hmg0
    obtain ⟨PF, df⟩ := EV.pgF_of (Q := fun f ps => f = 8 → ps = K38.p8) (prog := (PySem.Challenge.rw_elbowsexactly_k38_errors_each_its_own).prog) (M := K38.nms) (P := K38.prog) (file := K38.file) (fn := K38.fnD) KX G c (by decide) rfl rfl rfl (by kernel_rfl) (by kernel_rfl) K38.TT
    obtain ⟨d, D, ps, fd, h1, h2, ⟨T, q⟩, F⟩ := df 8 "law" rfl
    cases h1
    rw [q rfl] at F
    have hfa := hmg.symm.trans F.mg
    injection hfa with hfa
    injection hfa with hfa
    have hn : (HandSHeadRun.topDef K38.R.prog 36).name = ("law" : PySem.Str) := by kernel_rfl
    refine ⟨K, _, _, fd, KX, nl, PF, rfl, ?_⟩
    rw [hn, hfa]
    exact F
