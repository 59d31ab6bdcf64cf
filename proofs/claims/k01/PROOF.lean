import PyProof.Rows.All
import Wide.All
import OpenK.AllK
import Wide.FinOn
import HandS.ForMost
import HandS.Wide
import HandS.ForExc
import HandS.Lambda
import HandS.EndTab
import HandS.TupAny
import HandS.Deep
import HandS.NoneIn
import HandS.IsInst
import HandS.WideBits
import HandS.Conv
import HandS.Dict
import KE.KExcSuper
import HandS.ExcInit
import HandS.ExcIs
import HandS.ExcField
import KE.KExcIs
import PyProof.ExcReprCall
import PyProof.ReprRoads
import PyProof.ExcStrAll.ValueError
import HandS.Ends
import HandS.HeadHook1
import HandS.Head0
import HandS.Head1
import HandS.Head2
import HandS.HeadWalk
import HandS.HeadEnd
import PyProof.Rows.Walk
import PySem.Challenge.RW_elbowsexactly_k01_whole_numbers_of_unlik
set_option Elab.async false
set_option linter.all false
set_option maxRecDepth 100000
/-! Ev1: values as trees, a small heap of lists, an IR of a part of Python, its evaluator. -/
namespace EV
open PySem L2

/-- a value: tuples are trees; a list is a place in the small heap -/
inductive PV where
  | non | bl (b : Bool) | int (i : Int) | str (s : Str) | tup (xs : List PV) | ref (n : Nat) | exc (b : Bool) (c : Nat) (v : PV) | clo (k : Nat) (xs : List PV)
instance : Inhabited PV := ⟨.non⟩
/-- what stands at a place: a list (fz: it is not ours to write), an empty dict, what is forgotten -/
inductive HV where
  | lst (fz : Bool) (xs : List PV) | dct0 | dead
instance : Inhabited HV := ⟨.dead⟩
abbrev Hh := List HV
abbrev En := List (Option PV)
inductive Rz (α : Type) where
  | ok (a : α) (h : Hh) | ex (c : Nat) (v : PV) (h : Hh) | err
def Rz.bnd {α β : Type} (r : Rz α) (f : α → Hh → Rz β) : Rz β := match r with
  | .ok a h => f a h
  | .ex c v h => .ex c v h
  | .err => .err
/-- where a for goes: over a tuple's items, over what stands at a place, over ints -/
inductive It where
  | fix (xs : List PV) | ref (n : Nat) | rng (lo : Int) (n : Nat)
/-- no error may leave -/
def Rz.nox {α : Type} : Rz α → Rz α
  | .ok a h => .ok a h
  | _ => .err
/-- .. where lambdas are made -/
def Rz.nxf {α : Type} (r : Rz α) (b : Bool) : Rz α := if b = true then r.nox else r
inductive Fl where
  | nx (ρ : En) | rt (v : PV) | bk (ρ : En) | ct (ρ : En)
inductive Ty where
  | int | bool | str | tuple | list | verr
  deriving DecidableEq

/-! ### values -/
mutual
def PV.beq : PV → PV → Bool
  | .non, .non => true
  | .bl a, .bl b => a == b
  | .int a, .int b => a == b
  | .str a, .str b => a == b
  | .tup a, .tup b => PV.beqs a b
  | .ref a, .ref b => a == b
  | .exc p c a, .exc q d b => p == q && (c == d && PV.beq a b)
  | .clo c a, .clo d b => c == d && PV.beqs a b
  | _, _ => false
termination_by structural x => x
def PV.beqs : List PV → List PV → Bool
  | [], [] => true
  | a :: r, b :: s => PV.beq a b && PV.beqs r s
  | _, _ => false
termination_by structural x => x
end
mutual
/-- no place of the heap is named in it, no closure -/
def PV.pure : PV → Bool
  | .ref _ => false
  | .clo _ _ => false
  | .tup xs => PV.pures xs
  | .exc _ _ v => PV.pure v
  | _ => true
termination_by structural x => x
def PV.pures : List PV → Bool
  | [] => true
  | x :: xs => PV.pure x && PV.pures xs
termination_by structural x => x
end
mutual
def PV.noClo : PV → Bool
  | .clo _ _ => false
  | .tup xs => PV.noClos xs
  | .exc _ _ v => PV.noClo v
  | _ => true
termination_by structural x => x
def PV.noClos : List PV → Bool
  | [] => true
  | x :: xs => PV.noClo x && PV.noClos xs
termination_by structural x => x
end
mutual
/-- the places named in it -/
def PV.refs : PV → List Nat
  | .ref n => [n]
  | .tup xs => PV.refss xs
  | .exc _ _ v => PV.refs v
  | .clo _ xs => PV.refss xs
  | _ => []
termination_by structural x => x
def PV.refss : List PV → List Nat
  | [] => []
  | x :: xs => PV.refs x ++ PV.refss xs
termination_by structural x => x
end
/-- where a number stands -/
def posOf (r : Nat) : List Nat → Nat → Option Nat
  | [], _ => none
  | x :: xs, k => if x == r then some k else posOf r xs (k + 1)
mutual
/-- its places named by where they stand in m -/
def PV.ren (m : List Nat) : PV → Option PV
  | .ref n => match posOf n m 0 with
    | some k => some (.ref k)
    | none => none
  | .tup xs => match PV.rens m xs with
    | some ys => some (.tup ys)
    | none => none
  | .exc b c v => match PV.ren m v with
    | some w => some (.exc b c w)
    | none => none
  | .clo _ _ => none
  | .non => some .non
  | .bl b => some (.bl b)
  | .int i => some (.int i)
  | .str s => some (.str s)
termination_by structural x => x
def PV.rens (m : List Nat) : List PV → Option (List PV)
  | [] => some []
  | x :: xs => match PV.ren m x, PV.rens m xs with
    | some y, some ys => some (y :: ys)
    | _, _ => none
termination_by structural x => x
end
/-- .. and back; what is new stands from L on -/
def bakN (m : List Nat) (L i : Nat) : Nat := match m[i]? with
  | some n => n
  | none => L + (i - m.length)
mutual
def PV.bak (m : List Nat) (L : Nat) : PV → PV
  | .ref i => .ref (bakN m L i)
  | .tup xs => .tup (PV.baks m L xs)
  | .exc b c v => .exc b c (PV.bak m L v)
  | .clo c xs => .clo c (PV.baks m L xs)
  | .non => .non
  | .bl b => .bl b
  | .int i => .int i
  | .str s => .str s
termination_by structural x => x
def PV.baks (m : List Nat) (L : Nat) : List PV → List PV
  | [] => []
  | x :: xs => PV.bak m L x :: PV.baks m L xs
termination_by structural x => x
end
def HV.ren (m : List Nat) : HV → Option HV
  | .lst f xs => match PV.rens m xs with
    | some ys => some (.lst f ys)
    | none => none
  | .dct0 => some .dct0
  | .dead => none
def HV.bak (m : List Nat) (L : Nat) : HV → HV
  | .lst f xs => .lst f (PV.baks m L xs)
  | .dct0 => .dct0
  | .dead => .dead
/-- what can be come to -/
def reachF (h : Hh) : Nat → List Nat → List Nat → Option (List Nat)
  | 0, _, _ => none
  | _ + 1, [], seen => some seen
  | n + 1, r :: todo, seen => if seen.contains r then reachF h n todo seen else match h[r]? with
    | some (.lst _ xs) => reachF h n (todo ++ PV.refss xs) (seen ++ [r])
    | some .dct0 => reachF h n todo (seen ++ [r])
    | _ => none
def nodupB : List Nat → Bool
  | [] => true
  | x :: xs => !xs.contains x && nodupB xs
def renH (m : List Nat) (h : Hh) : List Nat → Option Hh
  | [] => some []
  | r :: rs => match h[r]? with
    | some o => match HV.ren m o, renH m h rs with
      | some u, some us => some (u :: us)
      | _, _ => none
    | none => none
/-- a heap of its own for what some values name -/
def grab (h : Hh) (args : List PV) : Option (List Nat × List PV × Hh) := match reachF h 4000 (PV.refss args) [] with
  | some m => if nodupB m = true then match PV.rens m args, renH m h m with
      | some as, some h0 => some (m, as, h0)
      | _, _ => none
    else none
  | none => none
/-- the heap of its own written back -/
def wrt (m : List Nat) (L : Nat) : List Nat → Hh → Hh → Hh
  | r :: rs, o :: os, h => wrt m L rs os (h.set r (o.bak m L))
  | [], os, h => h ++ os.map (HV.bak m L)
  | _ :: _, [], h => h
def It.noClo : It → Bool
  | .fix xs => PV.noClos xs
  | _ => true
def HV.noClo : HV → Bool
  | .lst _ xs => PV.noClos xs
  | _ => true
/-- all that knows a closure forgotten -/
def killH (h : Hh) : Hh := h.map fun o => if o.noClo then o else .dead
def killE (ρ : En) : En := ρ.map fun o => match o with
  | some v => if v.noClo then some v else none
  | none => none
def getL (h : Hh) (n : Nat) : Option (List PV) := match h[n]? with
  | some (.lst _ xs) => some xs
  | _ => none
mutual
/-- a value as data; lists are read where they stand (at most k deep) -/
def PV.data (h : Nat → Option PyData) : PV → Option PyData
  | .non => some .none
  | .bl b => some (.bool b)
  | .int i => some (.int i)
  | .str s => some (.str s)
  | .tup xs => match PV.datas h xs with
    | some ds => some (.tuple ds)
    | none => none
  | .ref n => h n
  | _ => none
termination_by structural x => x
def PV.datas (h : Nat → Option PyData) : List PV → Option (List PyData)
  | [] => some []
  | x :: xs => match PV.data h x, PV.datas h xs with
    | some d, some ds => some (d :: ds)
    | _, _ => none
termination_by structural x => x
end
/-- the data at a place, lists within lists so deep -/
def dataAt (h : Hh) : Nat → Nat → Option PyData
  | 0, _ => none
  | k + 1, n => match h[n]? with
    | some (.lst _ xs) => match PV.datas (dataAt h k) xs with
      | some ds => some (.list ds)
      | none => none
    | some .dct0 => some (.dict [])
    | _ => none
def dataOf (h : Hh) (v : PV) : Option PyData := PV.data (dataAt h 6) v

/-! ### operators -/
def b2 (b : Bool) : Int := if b = true then 1 else 0
def MulOk (i j : Int) : Prop := i.natAbs.log2 + j.natAbs.log2 < 1000000
instance (i j : Int) : Decidable (MulOk i j) := by unfold MulOk; infer_instance
def DivOk (j : Int) : Prop := j ≠ 0 ∧ j.natAbs.log2 < 9000
instance (j : Int) : Decidable (DivOk j) := by unfold DivOk; infer_instance
def PowOk (i j : Int) : Prop := 0 ≤ j ∧ (i.natAbs.log2 + 1) * j.toNat ≤ 134217728
instance (i j : Int) : Decidable (PowOk i j) := by unfold PowOk; infer_instance
def newL (xs : List PV) (h : Hh) : Rz PV := .ok (.ref h.length) (h ++ [.lst false xs])
def isFl (h : Hh) (n : Nat) : Option (List PV) := match h[n]? with
  | some (.lst false xs) => some xs
  | _ => none
def binV (op : Operator) (x y : PV) (h : Hh) : Rz PV := match op, x, y with
  | .Add, .int i, .int j => .ok (.int (i + j)) h
  | .Sub, .int i, .int j => .ok (.int (i - j)) h
  | .Mult, .int i, .int j => if MulOk i j then .ok (.int (i * j)) h else .err
  | .FloorDiv, .int i, .int j => if DivOk j then .ok (.int (i.fdiv j)) h else .err
  | .Mod, .int i, .int j => if j ≠ 0 then .ok (.int (i.fmod j)) h else .err
  | .Pow, .int i, .int j => if PowOk i j then .ok (.int (i ^ j.toNat)) h else .err
  | .LShift, .int i, .int j => if 0 ≤ j ∧ j ≤ 1000000 ∧ i.natAbs < 2 ^ 64 then .ok (.int (i * 2 ^ j.toNat)) h else .err
  | .Sub, .bl p, .bl q => .ok (.int (b2 p - b2 q)) h
  | .Add, .tup xs, .tup ys => if xs.length + ys.length ≤ sizeLine then .ok (.tup (xs ++ ys)) h else .err
  | .Add, .ref n, .ref m => match isFl h n, isFl h m with
    | some xs, some ys => if xs.length + ys.length ≤ sizeLine then newL (xs ++ ys) h else .err
    | _, _ => .err
  | .Mult, .ref n, .int k => match isFl h n with
    | some xs => if 0 ≤ k ∧ k < 1000 ∧ xs.length * k.toNat ≤ sizeLine then newL (List.replicate k.toNat xs).flatten h else .err
    | none => .err
  | _, _, _ => .err
mutual
/-- values that are compared as they stand -/
def PV.plain : PV → Bool
  | .non => true
  | .bl _ => true
  | .int _ => true
  | .str _ => true
  | .tup xs => PV.plains xs
  | _ => false
termination_by structural x => x
def PV.plains : List PV → Bool
  | [] => true
  | x :: xs => PV.plain x && PV.plains xs
termination_by structural x => x
end
/-- flat things that == tells apart as such -/
def flatP : PV → Bool
  | .int _ => true
  | .str _ => true
  | _ => false
def eqF : PV → PV → Bool
  | .int i, .int j => i == j
  | .str x, .str y => x == y
  | _, _ => false
/-- == of two values, as data -/
def eqD (h : Hh) (x y : PV) : Option Bool := match dataOf h x, dataOf h y with
  | some d, some e => if SeqAt.shaped d && SeqAt.shaped e then some (PyData.eqv d e) else none
  | _, _ => none
def isNon : PV → Bool
  | .non => true
  | _ => false
def cmpV (op : CmpOp) (x y : PV) (h : Hh) : Rz PV := match op, x, y with
  | .Lt, .int i, .int j => .ok (.bl (decide (i < j))) h
  | .LtE, .int i, .int j => .ok (.bl (decide (i ≤ j))) h
  | .Gt, .int i, .int j => .ok (.bl (decide (j < i))) h
  | .GtE, .int i, .int j => .ok (.bl (decide (j ≤ i))) h
  | .Is, v, .non => .ok (.bl (isNon v)) h
  | .IsNot, v, .non => .ok (.bl (!isNon v)) h
  | .Eq, .int i, .int j => .ok (.bl (decide (i = j))) h
  | .NotEq, .int i, .int j => .ok (.bl (!decide (i = j))) h
  | .Eq, .str i, .str j => .ok (.bl (decide (i = j))) h
  | .NotEq, .str i, .str j => .ok (.bl (!decide (i = j))) h
  | .Eq, .bl i, .bl j => .ok (.bl (decide (i = j))) h
  | .NotEq, .bl i, .bl j => .ok (.bl (!decide (i = j))) h
  | .Eq, v, w => match eqD h v w with
    | some b => .ok (.bl b) h
    | none => .err
  | .NotEq, v, w => match eqD h v w with
    | some b => .ok (.bl (!b)) h
    | none => .err
  | .In, v, .tup xs => if flatP v && xs.all flatP then .ok (.bl (xs.any fun y => eqF y v)) h else .err
  | .NotIn, v, .tup xs => if flatP v && xs.all flatP then .ok (.bl (!(xs.any fun y => eqF y v))) h else .err
  | _, _, _ => .err
def idxV (x y : PV) (h : Hh) : Rz PV := match x, y with
  | .tup xs, .int i => match atI xs i with
    | some v => .ok v h
    | none => .err
  | .ref n, .int i => match getL h n with
    | some xs => match atI xs i with
      | some v => .ok v h
      | none => .err
    | none => .err
  | _, _ => .err
def cutP (xs : List PV) (lo hi : Option Int) : List PV := (xs.drop (HT.sIx xs.length 0 lo)).take (HT.sIx xs.length xs.length hi - HT.sIx xs.length 0 lo)
def slcV (x : PV) (lo hi : Option Int) (h : Hh) : Rz PV := match x with
  | .tup xs => .ok (.tup (cutP xs lo hi)) h
  | .ref n => match getL h n with
    | some xs => newL (cutP xs lo hi) h
    | none => .err
  | _ => .err
def truV (x : PV) (h : Hh) : Rz Bool := match x with
  | .non => .ok false h
  | .bl b => .ok b h
  | .int i => .ok (i != 0) h
  | .tup xs => .ok (!xs.isEmpty) h
  | .ref n => match getL h n with
    | some xs => .ok (!xs.isEmpty) h
    | none => .err
  | _ => .err
def lenV (x : PV) (h : Hh) : Rz PV := match x with
  | .tup xs => .ok (.int xs.length) h
  | .ref n => match getL h n with
    | some xs => .ok (.int xs.length) h
    | none => .err
  | _ => .err
def isV (ty : Ty) (x : PV) (h : Hh) : Option Bool := match x with
  | .non => some false
  | .bl _ => some (ty == .int || ty == .bool)
  | .int _ => some (ty == .int)
  | .str _ => some (ty == .str)
  | .tup _ => some (ty == .tuple)
  | .ref n => match h[n]? with
    | some (.lst _ _) => some (ty == .list)
    | some .dct0 => some false
    | _ => none
  | .exc _ _ _ => if ty = .verr then some true else none
  | _ => none
def intsP : List PV → Option (List Int)
  | [] => some []
  | .int i :: r => match intsP r with
    | some l => some (i :: l)
    | none => none
  | _ => none
def blsP : List PV → Option (List Bool)
  | [] => some []
  | .bl b :: r => match blsP r with
    | some l => some (b :: l)
    | none => none
  | _ => none

/-! ### the IR -/
inductive BI where
  | len | int | abs | sum | all | any | list | tuple | lrng | repr | max2 | min2 | bitl
  deriving DecidableEq
inductive T where
  | var (i : Nat) | cst (c : PV) | glb (g : Nat) | tup (es : T) | lst (es : T) | dct0
  | bin (op : Operator) (a b : T) | neg (a : T) | nt (a : T) | an (a b : T) | oo (a b : T)
  | cmp (op : CmpOp) (a b : T) | chn (op op' : CmpOp) (a b c : T) | ife (c a b : T)
  | idx (a i : T) | slc (a lo hi : T) | rvs (a : T) | none
  | call (f : Nat) (args : T) | callk (f : Nat) (args kws : T) (perm : List Nat) | blt (b : BI) (args : T)
  | isi (ty : Ty) (a : T) | isx (c : Nat) (a : T) | clov (i : Nat) (args : T) | exn (c : Nat) (a : T) | attr (a : T)
  | lc (own : List Nat) (tg it tst el : T) | lam (k : Nat)
  | nil | cons (e r : T) | star (e r : T)
  | alc (i : Nat) (own : List Nat) (tg it tst el : T) | asg (tg e : T) | aug (i : Nat) (op : Operator) (e : T) | iff (c a b : T) | whl (c b : T) | fo (tg it b : T)
  | ret (e : T) | retn | xpr (e : T) | app (l e : T) | ext (l e : T) | rse (c : Nat) (e : T) | brk | cnt | pas | doc
  | try1 (i j k c : Nat) (e : T)
  | kil (i : Nat) | rpx (a : T) | lrg (a : T) | bit (a : T) | par (is : List Nat) (a : T)
  | tn (i : Nat) | tt (ts : T) | tsub (o i : T) | rng1 (a : T) | rng2 (a b : T)

/-- how many items a list of parts has -/
def T.len : T → Nat
  | .cons _ r => r.len + 1
  | .star _ r => r.len + 1
  | _ => 0
/-- the slots that a target writes -/
def T.wr : T → List Nat
  | .tn i => [i]
  | .tt ts => ts.wr
  | .cons a b => a.wr ++ b.wr
  | _ => []
structure Cfg where
  call : Nat → List PV → Hh → Rz PV
  clo : Nat → List PV → List PV → Hh → Rz PV
  glob : List PV
  /-- of each lambda the slots that it captures -/
  caps : List (List Nat)
  /-- which error class is below which -/
  sub : Nat → Nat → Bool
  /-- the classes' names -/
  cnm : Nat → Str
  wf : Nat
  /-- a lambda is made here; slots that lambdas capture -/
  flag : Bool
  capd : List Nat

structure Ev where
  e : En → Hh → Rz PV
  t : En → Hh → Rz Bool
  a : En → Hh → Rz (List PV)
  s : En → Hh → Rz Fl
  g : PV → En → Hh → Rz En
  gs : List PV → En → Hh → Rz En
  i : En → Hh → Rz It
  o : En → Hh → Rz (Option Int)

def Ev.no : Ev := ⟨fun _ _ => .err, fun _ _ => .err, fun _ _ => .err, fun _ _ => .err, fun _ _ _ => .err, fun _ _ _ => .err, fun _ _ => .err, fun _ _ => .err⟩
/-- an expression's roles, by its value -/
def Ev.ofE (f : En → Hh → Rz PV) : Ev := { Ev.no with
  e := f
  t := fun ρ h => (f ρ h).bnd truV
  i := fun ρ h => (f ρ h).bnd fun v h => match v with
    | .tup xs => .ok (.fix xs) h
    | .ref n => match getL h n with
      | some _ => .ok (.ref n) h
      | none => .err
    | _ => .err
  o := fun ρ h => (f ρ h).bnd fun v h => match v with
    | .int i => .ok (some i) h
    | _ => .err }
def Ev.ofT (f : En → Hh → Rz PV) (t : En → Hh → Rz Bool) : Ev := { Ev.ofE f with t := t }
def Ev.ofS (f : En → Hh → Rz Fl) : Ev := { Ev.no with s := f }

def whileL (c : En → Hh → Rz Bool) (b : En → Hh → Rz Fl) : Nat → En → Hh → Rz Fl
  | 0, _, _ => .err
  | n + 1, ρ, h => (c ρ h).bnd fun k h => match k with
    | false => .ok (.nx ρ) h
    | true => (b ρ h).bnd fun f h => match f with
      | .nx ρ => whileL c b n ρ h
      | .ct ρ => whileL c b n ρ h
      | .bk ρ => .ok (.nx ρ) h
      | .rt v => .ok (.rt v) h
/-- the item at a turn, if there is one -/
def itemAt (it : It) (k : Nat) (h : Hh) : Option (Option PV) := match it with
  | .fix xs => some xs[k]?
  | .ref n => match getL h n with
    | some xs => some xs[k]?
    | none => none
  | .rng lo n => some (if k < n then some (.int (lo + k)) else none)
def forL (g : PV → En → Hh → Rz En) (b : En → Hh → Rz Fl) (it : It) : Nat → Nat → En → Hh → Rz Fl
  | 0, _, _, _ => .err
  | m + 1, k, ρ, h => match itemAt it k h with
    | none => .err
    | some none => .ok (.nx ρ) h
    | some (some v) => (g v ρ h).bnd fun ρ h => (b ρ h).bnd fun f h => match f with
      | .nx ρ => forL g b it m (k + 1) ρ h
      | .ct ρ => forL g b it m (k + 1) ρ h
      | .bk ρ => .ok (.nx ρ) h
      | .rt v => .ok (.rt v) h
def wipeE (ρ : En) : List Nat → En
  | [] => ρ
  | v :: vs => (wipeE ρ vs).set v none
/-- a comprehension: the list that grows stands at D; each turn begins with the slots ρ0 -/
def compL (g : PV → En → Hh → Rz En) (t : En → Hh → Rz Bool) (el : En → Hh → Rz PV) (it : It) (ρ0 : En) (D : Nat) : Nat → Nat → Hh → Rz PV
  | 0, _, _ => .err
  | m + 1, k, h => match itemAt it k h with
    | none => .err
    | some none => .ok (.ref D) h
    | some (some v) => (g v ρ0 h).bnd fun ρ h => (t ρ h).bnd fun b h => match b with
      | false => compL g t el it ρ0 D m (k + 1) h
      | true => (el ρ h).bnd fun y h => match isFl h D with
        | some acc => if acc.length < sizeLine then compL g t el it ρ0 D m (k + 1) (h.set D (.lst false (acc ++ [y]))) else .err
        | none => .err
/-- no starred part -/
def noStarE (es : List Expr) : Bool := es.all fun e => match e with
  | .Starred .. => false
  | _ => true
def capVals (ρ : En) : List Nat → Option (List PV)
  | [] => some []
  | i :: r => match ρ[i]?, capVals ρ r with
    | some (some v), some l => some (v :: l)
    | _, _ => none
def getAll (xs : List PV) : List Nat → Option (List PV)
  | [] => some []
  | i :: r => match xs[i]?, getAll xs r with
    | some v, some l => some (v :: l)
    | _, _ => none
def dictOk : PyData → Bool
  | .dict [] => true
  | d => !d.hasDict
def showOk (d : PyData) : Bool := dictOk d && d.showable && decide (d.shown.length ≤ sizeLine) && decide (d.depth ≤ 60)
def arg1 (f : PV → Rz PV) : List PV → Rz PV
  | [x] => f x
  | _ => .err
def arg2 (f : PV → PV → Rz PV) : List PV → Rz PV
  | [x, y] => f x y
  | _ => .err
def intV (x : PV) (h : Hh) : Rz PV := match x with
  | .int i => .ok (.int i) h
  | .bl k => .ok (.int (b2 k)) h
  | _ => .err
def absV (x : PV) (h : Hh) : Rz PV := match x with
  | .int i => .ok (.int (if i < 0 then -i else i)) h
  | _ => .err
def maxV (x y : PV) (h : Hh) : Rz PV := match x, y with
  | .int i, .int j => .ok (.int (if j > i then j else i)) h
  | _, _ => .err
def minV (x y : PV) (h : Hh) : Rz PV := match x, y with
  | .int i, .int j => .ok (.int (if j < i then j else i)) h
  | _, _ => .err
def lstV (h : Hh) (x : PV) : Option (List PV) := match x with
  | .ref n => getL h n
  | _ => none
def sumV (x : PV) (h : Hh) : Rz PV := match (lstV h x).bind intsP with
  | some l => .ok (.int l.sum) h
  | none => .err
def allV (x : PV) (h : Hh) : Rz PV := match (lstV h x).bind blsP with
  | some l => .ok (.bl (l.all id)) h
  | none => .err
def anyV (x : PV) (h : Hh) : Rz PV := match (lstV h x).bind blsP with
  | some l => .ok (.bl (l.any id)) h
  | none => .err
def mkLV (x : PV) (h : Hh) : Rz PV := match x with
  | .tup xs => newL xs h
  | .ref n => match getL h n with
    | some xs => newL xs h
    | none => .err
  | _ => .err
def mkTV (x : PV) (h : Hh) : Rz PV := match x with
  | .tup xs => .ok (.tup xs) h
  | .ref n => match getL h n with
    | some xs => .ok (.tup xs) h
    | none => .err
  | _ => .err
def lrngV (x : PV) (h : Hh) : Rz PV := match x with
  | .int i => if 0 ≤ i ∧ i ≤ 1000000 then newL ((List.range i.toNat).map fun (k : Nat) => PV.int (k : Int)) h else .err
  | _ => .err
def bitlV (x : PV) (h : Hh) : Rz PV := match x with
  | .int i => .ok (.int (Builtin.Int.intBits i : Nat)) h
  | _ => .err
def reprV (x : PV) (h : Hh) : Rz PV := match dataOf h x with
  | some d => if showOk d = true then .ok (.str (PyData.shown d)) h else .err
  | none => .err
def bltV (b : BI) (vs : List PV) (h : Hh) : Rz PV := match b with
  | .len => arg1 (fun x => lenV x h) vs
  | .int => arg1 (fun x => intV x h) vs
  | .abs => arg1 (fun x => absV x h) vs
  | .max2 => arg2 (fun x y => maxV x y h) vs
  | .min2 => arg2 (fun x y => minV x y h) vs
  | .sum => arg1 (fun x => sumV x h) vs
  | .all => arg1 (fun x => allV x h) vs
  | .any => arg1 (fun x => anyV x h) vs
  | .list => arg1 (fun x => mkLV x h) vs
  | .tuple => arg1 (fun x => mkTV x h) vs
  | .lrng => arg1 (fun x => lrngV x h) vs
  | .bitl => arg1 (fun x => bitlV x h) vs
  | .repr => arg1 (fun x => reprV x h) vs
def slot (ρ : En) (i : Nat) : Option PV := match ρ[i]? with
  | some (some v) => some v
  | _ => none
/-- a slot is written: where a lambda may have captured it, closures are forgotten -/
def putS (C : Cfg) (i : Nat) (v : PV) (ρ : En) (h : Hh) : Rz En :=
  if (C.flag && C.capd.contains i) = true then (if v.noClo = true then .ok ((killE ρ).set i (some v)) (killH h) else .err)
  else .ok (ρ.set i (some v)) h
/-- a return: where lambdas are made they are forgotten -/
def retS (C : Cfg) (v : PV) (h : Hh) : Rz Fl := if C.flag = true then (if v.noClo = true then .ok (.rt v) (killH h) else .err) else .ok (.rt v) h

def parV (F : Cfg) : List Nat → List PV → En → Hh → Rz Fl
  | [], [], ρ, h => .ok (.nx ρ) h
  | i :: is, v :: vs, ρ, h => if (!F.flag || PV.noClos vs) = true then (putS F i v ρ h).bnd fun ρ h => parV F is vs ρ h else .err
  | _, _, _, _ => .err
def ev (C : Cfg) : T → Ev
  | .var i => .ofE fun ρ h => match slot ρ i with
    | some v => .ok v h
    | none => .err
  | .cst c => .ofE fun _ h => .ok c h
  | .glb g => .ofE fun _ h => match C.glob[g]? with
    | some v => .ok v h
    | none => .err
  | .tup es => .ofE fun ρ h => ((ev C es).a ρ h).bnd fun vs h => if vs.length ≤ sizeLine then .ok (.tup vs) h else .err
  | .lst es => .ofE fun ρ h => ((ev C es).a ρ h).bnd fun vs h => if vs.length ≤ sizeLine then newL vs h else .err
  | .dct0 => .ofE fun _ h => .ok (.ref h.length) (h ++ [.dct0])
  | .bin op a b => .ofE fun ρ h => ((ev C a).e ρ h).bnd fun x h => ((ev C b).e ρ h).bnd fun y h => binV op x y h
  | .neg a => .ofE fun ρ h => ((ev C a).e ρ h).bnd fun x h => match x with
    | .int i => .ok (.int (-i)) h
    | _ => .err
  | .nt a => .ofT (fun ρ h => ((ev C a).e ρ h).bnd fun x h => match x with
      | .bl b => .ok (.bl (!b)) h
      | _ => .err) (fun ρ h => ((ev C a).t ρ h).bnd fun b h => .ok (!b) h)
  | .an a b => .ofT (fun ρ h => ((ev C a).e ρ h).bnd fun x h => match x with
      | .bl true => (ev C b).e ρ h
      | .bl false => .ok (.bl false) h
      | _ => .err)
    (fun ρ h => ((ev C a).t ρ h).bnd fun x h => if x = true then (ev C b).t ρ h else .ok false h)
  | .oo a b => .ofT (fun ρ h => ((ev C a).e ρ h).bnd fun x h => match x with
      | .bl false => (ev C b).e ρ h
      | .bl true => .ok (.bl true) h
      | _ => .err)
    (fun ρ h => ((ev C a).t ρ h).bnd fun x h => if x = true then .ok true h else (ev C b).t ρ h)
  | .cmp op a b => .ofE fun ρ h => ((ev C a).e ρ h).bnd fun x h => ((ev C b).e ρ h).bnd fun y h => cmpV op x y h
  | .chn op op' a b c => .ofE fun ρ h => ((ev C a).e ρ h).bnd fun x h => ((ev C b).e ρ h).bnd fun y h => (cmpV op x y h).bnd fun k h => match k with
    | .bl true => ((ev C c).e ρ h).bnd fun z h => cmpV op' y z h
    | .bl false => .ok (.bl false) h
    | _ => .err
  | .ife c a b => .ofE fun ρ h => ((ev C c).t ρ h).bnd fun k h => if k = true then (ev C a).e ρ h else (ev C b).e ρ h
  | .idx a i => .ofE fun ρ h => ((ev C a).e ρ h).bnd fun x h => ((ev C i).e ρ h).bnd fun y h => idxV x y h
  | .slc a lo hi => .ofE fun ρ h => ((ev C a).e ρ h).bnd fun x h => ((ev C lo).o ρ h).bnd fun l h => ((ev C hi).o ρ h).bnd fun u h => slcV x l u h
  | .rvs a => .ofE fun ρ h => ((ev C a).e ρ h).bnd fun x h => match x with
    | .tup xs => .ok (.tup xs.reverse) h
    | .ref n => match getL h n with
      | some xs => newL xs.reverse h
      | none => .err
    | _ => .err
  | .none => { Ev.no with o := fun _ h => .ok none h }
  | .call f args => .ofE fun ρ h => ((ev C args).a ρ h).bnd fun vs h => (C.call f vs h).nxf C.flag
  | .callk f args kws perm => .ofE fun ρ h => ((ev C args).a ρ h).bnd fun vs h => ((ev C kws).a ρ h).bnd fun ws h => if vs.length = args.len ∧ ws.length = kws.len then (match getAll (vs ++ ws) perm with
    | some us => (C.call f us h).nxf C.flag
    | none => .err) else .err
  | .blt b args => .ofE fun ρ h => ((ev C args).a ρ h).bnd fun vs h => bltV b vs h
  | .isi ty a => .ofE fun ρ h => ((ev C a).e ρ h).bnd fun x h => match isV ty x h with
    | some b => .ok (.bl b) h
    | none => .err
  | .isx c a => .ofE fun ρ h => ((ev C a).e ρ h).bnd fun x h => match x with
    | .exc _ d _ => .ok (.bl (C.sub d c)) h
    | .non => .ok (.bl false) h
    | _ => .err
  | .clov i args => .ofE fun ρ h => match slot ρ i with
    | some (.clo k caps) => ((ev C args).a ρ h).bnd fun vs h => C.clo k caps vs h
    | _ => .err
  | .exn c a => .ofE fun ρ h => ((ev C a).e ρ h).bnd fun x h => .ok (.exc true c x) h
  | .attr a => .ofE fun ρ h => ((ev C a).e ρ h).bnd fun x h => match x with
    | .exc _ _ v => .ok v h
    | _ => .err
  | .lc own tg it tst el => .ofE fun ρ h => ((ev C it).i ρ h).bnd fun it h => if (!C.flag || it.noClo) = true then
      (compL (ev C tg).g (ev C tst).t (ev C el).e it (wipeE (if C.flag then killE ρ else ρ) own) h.length C.wf 0 ((if C.flag then killH h else h) ++ [.lst false []])).nox else .err
  | .lam k => .ofE fun ρ h => match C.caps[k]? with
    | some l => match capVals ρ l with
      | some vs => if PV.noClos vs then .ok (.clo k vs) h else .err
      | none => .err
    | none => .err
  | .nil => { Ev.no with
      a := fun _ h => .ok [] h
      s := fun ρ h => .ok (.nx ρ) h
      t := fun _ h => .ok true h
      gs := fun vs ρ h => match vs with
        | [] => .ok ρ h
        | _ => .err }
  | .cons e r => { Ev.no with
      a := fun ρ h => ((ev C e).e ρ h).bnd fun x h => ((ev C r).a ρ h).bnd fun xs h => .ok (x :: xs) h
      s := fun ρ h => ((ev C e).s ρ h).bnd fun f h => match f with
        | .nx ρ => (ev C r).s ρ h
        | f => .ok f h
      gs := fun vs ρ h => match vs with
        | v :: vs => if (!C.flag || PV.noClos vs) = true then ((ev C e).g v ρ h).bnd fun ρ h => (ev C r).gs vs ρ h else .err
        | [] => .err }
  | .star e r => { Ev.no with
      a := fun ρ h => ((ev C e).e ρ h).bnd fun x h => match x with
        | .tup ys => ((ev C r).a ρ h).bnd fun xs h => .ok (ys ++ xs) h
        | _ => .err }
  | .alc i own tg it tst el => .ofS fun ρ h => (((ev C it).i ρ h).bnd fun it h => if (!C.flag || it.noClo) = true then
      (compL (ev C tg).g (ev C tst).t (ev C el).e it (wipeE (if C.flag then killE ρ else ρ) own) h.length C.wf 0 ((if C.flag then killH h else h) ++ [.lst false []])).nox else .err).bnd fun v h => (putS C i v ρ h).bnd fun ρ h => .ok (.nx ρ) h
  | .asg tg e => .ofS fun ρ h => ((ev C e).e ρ h).bnd fun v h => ((ev C tg).g v ρ h).bnd fun ρ h => .ok (.nx ρ) h
  | .aug i op e => .ofS fun ρ h => match slot ρ i with
    | some x => ((ev C e).e ρ h).bnd fun y h => match op, x, y with
      | .Add, .int a, .int b => (putS C i (.int (a + b)) ρ h).bnd fun ρ h => .ok (.nx ρ) h
      | .Sub, .int a, .int b => (putS C i (.int (a - b)) ρ h).bnd fun ρ h => .ok (.nx ρ) h
      | .Mult, .int a, .int b => if MulOk a b then (putS C i (.int (a * b)) ρ h).bnd fun ρ h => .ok (.nx ρ) h else .err
      | _, _, _ => .err
    | none => .err
  | .iff c a b => .ofS fun ρ h => ((ev C c).t ρ h).bnd fun k h => if k = true then (ev C a).s ρ h else (ev C b).s ρ h
  | .whl c b => .ofS fun ρ h => whileL (ev C c).t (ev C b).s C.wf ρ h
  | .fo tg it b => .ofS fun ρ h => ((ev C it).i ρ h).bnd fun it h => if (!C.flag || it.noClo) = true then forL (ev C tg).g (ev C b).s it C.wf 0 ρ h else .err
  | .ret e => .ofS fun ρ h => ((ev C e).e ρ h).bnd fun v h => retS C v h
  | .retn => .ofS fun _ h => retS C .non h
  | .xpr e => .ofS fun ρ h => ((ev C e).e ρ h).bnd fun _ h => .ok (.nx ρ) h
  | .app l e => .ofS fun ρ h => ((ev C l).e ρ h).bnd fun x h => match x with
    | .ref n => match isFl h n with
      | some _ => ((ev C e).e ρ h).bnd fun y h => match isFl h n with
        | some xs => if xs.length < sizeLine then .ok (.nx ρ) (h.set n (.lst false (xs ++ [y]))) else .err
        | none => .err
      | none => .err
    | _ => .err
  | .ext l e => .ofS fun ρ h => ((ev C l).e ρ h).bnd fun x h => match x with
    | .ref n => match isFl h n with
      | some _ => ((ev C e).e ρ h).bnd fun y h => match y with
        | .ref m => match isFl h n, isFl h m with
          | some xs, some ys => if xs.length + ys.length ≤ sizeLine then .ok (.nx ρ) (h.set n (.lst false (xs ++ ys))) else .err
          | _, _ => .err
        | _ => .err
      | none => .err
    | _ => .err
  | .rse c e => .ofS fun ρ h => ((ev C e).e ρ h).bnd fun v h => .ex c v h
  | .brk => .ofS fun ρ h => .ok (.bk ρ) h
  | .cnt => .ofS fun ρ h => .ok (.ct ρ) h
  | .pas => .ofS fun ρ h => .ok (.nx ρ) h
  | .doc => .ofS fun ρ h => .ok (.nx ρ) h
  | .try1 i j k c e => .ofS fun ρ h => match (ev C e).e ρ h with
    | .ok v h => .ok (.nx (ρ.set i (some v))) h
    | .ex d v h => if C.sub d c then .ok (.nx ((ρ.set j (some (.exc false d v))).set k none)) h else .err
    | .err => .err
  | .kil i => .ofS fun ρ h => .ok (.nx (ρ.set i none)) (match slot ρ i with
    | some (.ref n) => h.set n .dead
    | _ => h)
  | .rpx a => .ofE fun ρ h => ((ev C a).e ρ h).bnd fun x h => match x with
    | .exc true c v => match dataOf h v with
      | some d => if dictOk d = true ∧ d.showable = true ∧ d.depth ≤ 60 ∧ (C.cnm c).length + d.shown.length + 2 ≤ sizeLine then .ok (.str (C.cnm c ++ Str.ofString "(" ++ d.shown ++ Str.ofString ")")) h else .err
      | none => .err
    | _ => reprV x h
  | .lrg a => .ofE fun ρ h => ((ev C a).e ρ h).bnd fun x h => lrngV x h
  | .par is a => .ofS fun ρ h => ((ev C a).a ρ h).bnd fun vs h => parV C is vs ρ h
  | .bit a => .ofE fun ρ h => ((ev C a).e ρ h).bnd fun x h => bitlV x h
  | .tn i => { Ev.no with g := fun v ρ h => putS C i v ρ h }
  | .tt ts => { Ev.no with g := fun v ρ h => match v with
      | .tup xs => if xs.length = ts.len then (ev C ts).gs xs ρ h else .err
      | _ => .err }
  | .tsub o i => { Ev.no with g := fun v ρ h => ((ev C o).e ρ h).bnd fun x h => ((ev C i).e ρ h).bnd fun y h => match x, y with
      | .ref n, .int k => match isFl h n with
        | some xs => match ixN xs.length k with
          | some j => .ok ρ (h.set n (.lst false (xs.set j v)))
          | none => .err
        | none => .err
      | _, _ => .err }
  | .rng1 a => { Ev.no with i := fun ρ h => ((ev C a).e ρ h).bnd fun x h => match x with
      | .int n => if n.natAbs ≤ 1000000 then .ok (.rng 0 n.toNat) h else .err
      | _ => .err }
  | .rng2 a b => { Ev.no with i := fun ρ h => ((ev C a).e ρ h).bnd fun x h => ((ev C b).e ρ h).bnd fun y h => match x, y with
      | .int l, .int n => if l.natAbs ≤ 1000000 ∧ n.natAbs ≤ 1000000 then .ok (.rng l (n - l).toNat) h else .err
      | _, _ => .err }

/-! ### a program -/
structure Fd where
  np : Nat
  ns : Nat
  body : T
  flag : Bool
  capd : List Nat
/-- a lambda's body: a def called, or what is no call of a def -/
inductive LB where
  | call (f : Nat) (args : T) | expr (e : T)
structure Ld where
  nc : Nat
  np : Nat
  body : LB
structure Pg where
  fns : List Fd
  lams : List Ld
  glob : List PV
  caps : List (List Nat)
  sub : Nat → Nat → Bool
  cnm : Nat → Str
  wf : Nat
/-- run over a heap of its own, where that can be -/
def lcl (h : Hh) (args : List PV) (run : List PV → Hh → Rz PV) : Rz PV := match grab h args with
  | some (m, as, h0) => match run as h0 with
    | .ok v h1 => if (m.isEmpty && v.pure) = true then .ok v h else .ok (v.bak m h.length) (wrt m h.length m h1 h)
    | .ex c v h1 => .ex c (v.bak m h.length) (wrt m h.length m h1 h)
    | .err => .err
  | none => run args h
def cfgOf (P : Pg) (call : Nat → List PV → Hh → Rz PV) (clo : Nat → List PV → List PV → Hh → Rz PV) (flag : Bool) (capd : List Nat) : Cfg :=
  ⟨call, clo, P.glob, P.caps, P.sub, P.cnm, P.wf, flag, capd⟩
/-- a body's end -/
def endS (flag : Bool) : Rz Fl → Rz PV
  | .ok (.nx _) h => .ok .non (if flag then killH h else h)
  | .ok (.rt v) h => .ok v h
  | .ok _ _ => .err
  | .ex c v h => if flag then .err else .ex c v h
  | .err => .err
def runF (P : Pg) (call : Nat → List PV → Hh → Rz PV) (clo : Nat → List PV → List PV → Hh → Rz PV) (d : Fd) (args : List PV) (h : Hh) : Rz PV :=
  lcl h args fun as h0 => endS d.flag ((ev (cfgOf P call clo d.flag d.capd) d.body).s (as.map some ++ List.replicate (d.ns - d.np) none) h0)
def runL (P : Pg) (call : Nat → List PV → Hh → Rz PV) (clo : Nat → List PV → List PV → Hh → Rz PV) (d : Ld) (args : List PV) (h : Hh) : Rz PV :=
  match d.body with
  | .call f as => ((ev (cfgOf P call clo true []) as).a (args.map some) h).nox.bnd fun vs h => call f vs h
  | .expr e => ((ev (cfgOf P call clo true []) e).e (args.map some) h).nox
/-- calls so many deep: of a def (true), of a lambda with what it has captured ahead of its arguments (false) -/
def evN (P : Pg) : Nat → Bool → Nat → List PV → Hh → Rz PV
  | 0, _, _, _, _ => .err
  | n + 1, true, f, args, h => match P.fns[f]? with
    | some d => if args.length = d.np then runF P (evN P n true) (fun k cs vs h => evN P n false k (cs ++ vs) h) d args h else .err
    | none => .err
  | n + 1, false, k, args, h => match P.lams[k]? with
    | some d => if args.length = d.nc + d.np then runL P (evN P n true) (fun k cs vs h => evN P n false k (cs ++ vs) h) d args h else .err
    | none => .err
end EV
set_option linter.all false
set_option maxRecDepth 100000
set_option maxHeartbeats 1000000
/-! Ev2: how the small heap lies in the tracked heap; what a run of the evaluator promises. -/
namespace EV
open PySem PySem.Spec PyProof.Rows L2

/-- a lambda of the text -/
structure LamI where
  qual : Str
  params : Arguments
  body : Expr
  scope : Scope
  /-- what it captures, in the evaluator's order -/
  names : List Str
structure Gm where
  K : PySem.W.Frag
  clsA : Nat → Addr
  /-- what lambda k may be -/
  lam : Nat → LamI → Prop
  /-- the tables of code objects -/
  tabs : List (Addr × Str)
/-- a cell, tracked -/
def cellO (c : Addr) (o : Obj) : HO := .ext fun h => h.get? c = some o
def Trk (H : Hp) (c : Addr) (v : V) : Prop := ∃ o u, H c = some (cellO c o) ∧ o.data = .cell (some u) ∧ RelV v u
/-- an error's object, its own dict at d -/
def ExD (cls : Value) (d a : Addr) : HO := .ext fun h => ∃ (oe : Obj) (vs : Array Value), h.get? a = some oe ∧ Zc cls (some d) oe ∧ oe.data = .fields vs
/-- .. whose only argument stands in the tuple at t0 -/
def ExA (cls : Value) (d t0 a : Addr) : HO := .ext fun h => h.get? a = some ({ cls := cls, dict := some d, data := .fields #[.ref t0, .none, .none, .none, .bool false, .none] } : Obj)
/-- a lambda's object -/
def LamO (L : LamI) (cl : List (Str × Addr)) (c' f : Addr) : HO := .ext fun h => ∃ (pm ctv : Value), h.get? f = some (PySem.W.kla_obj "<lambda>" L.qual L.params L.body L.scope cl pm c' ctv)
abbrev Cw := Addr → V → Prop

mutual
def VR (Γ : Gm) (φ : List Addr) (H : Hp) (W : Cw) : PV → V → Prop
  | .non, v => v = .non
  | .bl b, v => v = .bl b
  | .int i, v => v = .int i
  | .str s, v => v = .str s
  | .tup xs, v => ∃ p vs, v = .ref p ∧ SqT Γ.K H p vs ∧ VRs Γ φ H W xs vs
  | .ref n, v => ∃ a, φ[n]? = some a ∧ v = .ref a
  | .exc b c x, v => ∃ a d y, v = .ref a ∧ (match b with
      | false => H a = some (ExD (.ref (Γ.clsA c)) d a)
      | true => ∃ t0, H a = some (ExA (.ref (Γ.clsA c)) d t0 a) ∧ SqT Γ.K H t0 [y]) ∧ H d = some (.xd [("value", y)]) ∧ VR Γ φ H W x y
  | .clo k xs, v => ∃ L f c' cl vs, Γ.lam k L ∧ v = .ref f ∧ H f = some (LamO L cl c' f) ∧ H c' = some (LamX.CodeO c' L.qual) ∧
      ((∀ x y c, cl.lookup x = some c → cl.lookup y = some c → x = y) ∧ ∀ x c, cl.lookup x = some c → x ∈ L.names) ∧ VRs Γ φ H W xs vs ∧ vs.length = L.names.length ∧
      ∀ (i : Nat) (x : Str) (u : V), L.names[i]? = some x → vs[i]? = some u → ∃ c, cl.lookup x = some c ∧ W c u
termination_by structural x => x
def VRs (Γ : Gm) (φ : List Addr) (H : Hp) (W : Cw) : List PV → List V → Prop
  | [], vs => vs = []
  | x :: xs, vs => ∃ v r, vs = v :: r ∧ VR Γ φ H W x v ∧ VRs Γ φ H W xs r
termination_by structural x => x
end

/-- a list that is only read -/
def SqF (H : Hp) (a : Addr) (xs : List V) : Prop := ∃ o, H a = some (.frz o (.lst xs))
theorem SqF.sq {K H a xs} (h : SqF H a xs) : SqL K H a xs := .inl (.inr h)
def OR (Γ : Gm) (φ : List Addr) (H : Hp) (W : Cw) (o : HV) (a : Addr) : Prop := match o with
  | .lst false xs => ∃ vs, H a = some (.lst vs) ∧ VRs Γ φ H W xs vs
  | .lst true xs => ∃ vs, SqF H a vs ∧ VRs Γ φ H W xs vs
  | .dct0 => H a = some (.dK [])
  | .dead => True
structure HR (Γ : Gm) (φ : List Addr) (H : Hp) (W : Cw) (h : Hh) : Prop where
  len : φ.length = h.length
  at_ : ∀ (n : Nat) o a, h[n]? = some o → φ[n]? = some a → OR Γ φ H W o a
  inj : ∀ (n m : Nat) a xs ys, φ[n]? = some a → φ[m]? = some a → h[n]? = some (.lst false xs) → h[m]? = some (.lst false ys) → n = m
  tabs : LamX.Tabs Γ.tabs H
/-- what stood stands: all but tables, and lists that are ours to write -/
structure Stp (φ φ' : List Addr) (H H' : Hp) : Prop where
  pre : ∀ (n : Nat) a, φ[n]? = some a → φ'[n]? = some a
  new : ∀ a, a ∈ φ' → a ∈ φ ∨ ∀ vs, H a ≠ some (.lst vs)
  keep : ∀ b o, H b = some o → (∀ ps, o ≠ .tbl ps) → ((∃ vs, o = .lst vs) → b ∉ φ) → H' b = some o
  tbl : ∀ b ps, H b = some (.tbl ps) → ∃ ps', H' b = some (.tbl ps')
theorem Stp.refl {φ H} : Stp φ φ H H := ⟨fun _ _ h => h, fun _ h => .inl h, fun _ _ h _ _ => h, fun _ ps h => ⟨ps, h⟩⟩
theorem Stp.trans {φ φ1 φ2 H H1 H2} (a : Stp φ φ1 H H1) (b : Stp φ1 φ2 H1 H2) : Stp φ φ2 H H2 where
  pre := fun n x h => b.pre n x (a.pre n x h)
  new := fun x h => by
    rcases b.new x h with q | q
    · exact a.new x q
    · by_cases hx : x ∈ φ
      · exact .inl hx
      · exact .inr fun vs e => q vs (a.keep x _ e (fun ps z => nomatch z) fun _ => hx)
  keep := fun c o h n l => by
    refine b.keep c o (a.keep c o h n l) n fun z hm => ?_
    rcases a.new c hm with q | q
    · exact l z q
    · obtain ⟨vs, rfl⟩ := z
      exact q vs h
  tbl := fun c ps h => by
    obtain ⟨ps', e⟩ := a.tbl c ps h
    exact b.tbl c ps' e
/-- what no write touches -/
theorem Stp.fix {φ φ' H H'} (a : Stp φ φ' H H') {b : Addr} {o : HO} (h : H b = some o) (n : ∀ ps, o ≠ .tbl ps) (l : ∀ vs, o ≠ .lst vs) : H' b = some o :=
  a.keep b o h n fun ⟨vs, z⟩ => absurd z (l vs)
theorem Stp.sqT {φ φ' H H' K p vs} (a : Stp φ φ' H H') (h : SqT K H p vs) : SqT K H' p vs := by
  rcases h with (h | ⟨o, h⟩) | h
  · exact .inl (.inl (a.fix h (fun _ z => nomatch z) fun _ z => nomatch z))
  · exact .inl (.inr ⟨o, a.fix h (fun _ z => nomatch z) fun _ z => nomatch z⟩)
  · exact .inr h
theorem Stp.sqF {φ φ' H H' p vs} (a : Stp φ φ' H H') (h : SqF H p vs) : SqF H' p vs := by
  obtain ⟨o, h⟩ := h
  exact ⟨o, a.fix h (fun _ z => nomatch z) fun _ z => nomatch z⟩

mutual
theorem VR.mono {Γ φ φ' H H' W W'} (a : Stp φ φ' H H') (w : ∀ c v, W c v → W' c v) : ∀ (x : PV) (v : V), VR Γ φ H W x v → VR Γ φ' H' W' x v
  | .non, _, h => h
  | .bl _, _, h => h
  | .int _, _, h => h
  | .str _, _, h => h
  | .tup xs, v, h => by
    simp only [VR] at h ⊢
    obtain ⟨p, vs, e, s, r⟩ := h
    exact ⟨p, vs, e, a.sqT s, VRs.mono a w xs vs r⟩
  | .ref n, v, h => by
    simp only [VR] at h ⊢
    obtain ⟨b, e, q⟩ := h
    exact ⟨b, a.pre n b e, q⟩
  | .exc p c x, v, h => by
    simp only [VR] at h ⊢
    obtain ⟨b, d, y, e, h1, h2, r⟩ := h
    refine ⟨b, d, y, e, ?_, a.fix h2 (fun _ z => nomatch z) (fun _ z => nomatch z), VR.mono a w x y r⟩
    cases p with
    | false => exact a.fix h1 (fun _ z => nomatch z) (fun _ z => nomatch z)
    | true =>
      obtain ⟨t0, h3, h4⟩ := h1
      exact ⟨t0, a.fix h3 (fun _ z => nomatch z) (fun _ z => nomatch z), a.sqT h4⟩
  | .clo k xs, v, h => by
    simp only [VR] at h ⊢
    obtain ⟨L, f, c', cl, vs, eL, e, h1, h2, h3, r, l, q⟩ := h
    refine ⟨L, f, c', cl, vs, eL, e, a.fix h1 (fun _ z => nomatch z) (fun _ z => nomatch z), a.fix h2 (fun _ z => nomatch z) (fun _ z => nomatch z), h3, VRs.mono a w xs vs r, l, fun i x u e1 e2 => ?_⟩
    obtain ⟨c, e3, e4⟩ := q i x u e1 e2
    exact ⟨c, e3, w c u e4⟩
theorem VRs.mono {Γ φ φ' H H' W W'} (a : Stp φ φ' H H') (w : ∀ c v, W c v → W' c v) : ∀ (x : List PV) (v : List V), VRs Γ φ H W x v → VRs Γ φ' H' W' x v
  | [], _, h => h
  | x :: xs, vs, h => by
    simp only [VRs] at h ⊢
    obtain ⟨v, r, e, h1, h2⟩ := h
    exact ⟨v, r, e, VR.mono a w x v h1, VRs.mono a w xs r h2⟩
end
mutual
/-- without closures cells do not matter -/
theorem VR.noClo {Γ φ H W W'} : ∀ (x : PV) (v : V), x.noClo = true → VR Γ φ H W x v → VR Γ φ H W' x v
  | .non, _, _, h => h
  | .bl _, _, _, h => h
  | .int _, _, _, h => h
  | .str _, _, _, h => h
  | .tup xs, v, n, h => by
    simp only [VR] at h ⊢
    obtain ⟨p, vs, e, s, r⟩ := h
    exact ⟨p, vs, e, s, VRs.noClo xs vs n r⟩
  | .ref n, v, _, h => h
  | .exc p c x, v, n, h => by
    simp only [VR] at h ⊢
    obtain ⟨b, d, y, e, h1, h2, r⟩ := h
    exact ⟨b, d, y, e, h1, h2, VR.noClo x y n r⟩
  | .clo k xs, v, n, h => by cases n
theorem VRs.noClo {Γ φ H W W'} : ∀ (x : List PV) (v : List V), PV.noClos x = true → VRs Γ φ H W x v → VRs Γ φ H W' x v
  | [], _, _, h => h
  | x :: xs, vs, n, h => by
    simp only [VRs] at h ⊢
    obtain ⟨v, r, e, h1, h2⟩ := h
    have n' : (x.noClo && PV.noClos xs) = true := n
    rw [Bool.and_eq_true] at n'
    exact ⟨v, r, e, VR.noClo x v n'.1 h1, VRs.noClo xs r n'.2 h2⟩
end
theorem VRs.len {Γ φ H W} : ∀ {xs : List PV} {vs : List V}, VRs Γ φ H W xs vs → vs.length = xs.length
  | [], vs, h => by
    have e : vs = [] := h
    rw [e]; rfl
  | x :: xs, vs, h => by
    obtain ⟨v, r, e, _, h2⟩ := h
    rw [e, List.length_cons, List.length_cons, VRs.len h2]
theorem VRs.get {Γ φ H W} : ∀ {xs : List PV} {vs : List V} {i : Nat} {x : PV}, VRs Γ φ H W xs vs → xs[i]? = some x → ∃ v, vs[i]? = some v ∧ VR Γ φ H W x v
  | [], _, _, _, _, e => by simp at e
  | y :: xs, vs, 0, x, h, e => by
    obtain ⟨v, r, e1, h1, _⟩ := h
    subst e1
    simp at e
    subst e
    exact ⟨v, rfl, h1⟩
  | y :: xs, vs, i + 1, x, h, e => by
    obtain ⟨v, r, e1, _, h2⟩ := h
    subst e1
    obtain ⟨u, e2, q⟩ := VRs.get (i := i) h2 (by simpa using e)
    exact ⟨u, by simpa using e2, q⟩
theorem VRs.app {Γ φ H W} : ∀ {xs ys : List PV} {vs us : List V}, VRs Γ φ H W xs vs → VRs Γ φ H W ys us → VRs Γ φ H W (xs ++ ys) (vs ++ us)
  | [], ys, vs, us, h, g => by
    have e : vs = [] := h
    rw [e]; exact g
  | x :: xs, ys, vs, us, h, g => by
    obtain ⟨v, r, e1, h1, h2⟩ := h
    subst e1
    exact ⟨v, r ++ us, rfl, h1, VRs.app h2 g⟩
theorem VRs.take {Γ φ H W} : ∀ {xs : List PV} {vs : List V} (n : Nat), VRs Γ φ H W xs vs → VRs Γ φ H W (xs.take n) (vs.take n)
  | _, _, 0, _ => by rw [List.take_zero, List.take_zero]; exact rfl
  | [], vs, n + 1, h => by
    have e : vs = [] := h
    rw [e]; exact rfl
  | x :: xs, vs, n + 1, h => by
    obtain ⟨v, r, e1, h1, h2⟩ := h
    subst e1
    exact ⟨v, r.take n, rfl, h1, VRs.take n h2⟩
theorem VRs.drop {Γ φ H W} : ∀ {xs : List PV} {vs : List V} (n : Nat), VRs Γ φ H W xs vs → VRs Γ φ H W (xs.drop n) (vs.drop n)
  | _, _, 0, h => h
  | [], vs, n + 1, h => by
    have e : vs = [] := h
    rw [e]; exact rfl
  | x :: xs, vs, n + 1, h => by
    obtain ⟨v, r, e1, h1, h2⟩ := h
    subst e1
    exact VRs.drop n h2
theorem VRs.rev {Γ φ H W} : ∀ {xs : List PV} {vs : List V}, VRs Γ φ H W xs vs → VRs Γ φ H W xs.reverse vs.reverse
  | [], vs, h => by
    have e : vs = [] := h
    rw [e]; exact rfl
  | x :: xs, vs, h => by
    obtain ⟨v, r, e1, h1, h2⟩ := h
    subst e1
    rw [List.reverse_cons, List.reverse_cons]
    exact VRs.app (VRs.rev h2) ⟨v, [], rfl, h1, rfl⟩
theorem VRs.set {Γ φ H W} : ∀ {xs : List PV} {vs : List V} (i : Nat) {x v}, VRs Γ φ H W xs vs → VR Γ φ H W x v → VRs Γ φ H W (xs.set i x) (vs.set i v)
  | [], vs, _, _, _, h, _ => by
    have e : vs = [] := h
    rw [e]; exact rfl
  | y :: xs, vs, 0, x, v, h, g => by
    obtain ⟨u, r, e1, h1, h2⟩ := h
    subst e1
    exact ⟨v, r, rfl, g, h2⟩
  | y :: xs, vs, i + 1, x, v, h, g => by
    obtain ⟨u, r, e1, h1, h2⟩ := h
    subst e1
    exact ⟨u, r.set i v, rfl, h1, VRs.set i h2 g⟩
theorem VRs.rep {Γ φ H W} {xs : List PV} {vs : List V} (h : VRs Γ φ H W xs vs) : ∀ k : Nat, VRs Γ φ H W (List.replicate k xs).flatten (List.replicate k vs).flatten
  | 0 => rfl
  | k + 1 => by
    rw [List.replicate_succ, List.replicate_succ, List.flatten_cons, List.flatten_cons]
    exact VRs.app h (VRs.rep h k)
theorem VRs.cons' {Γ φ H W x v xs vs} (h : VR Γ φ H W x v) (g : VRs Γ φ H W xs vs) : VRs Γ φ H W (x :: xs) (v :: vs) := ⟨v, vs, rfl, h, g⟩

/-! ### slots -/
structure RE (Γ : Gm) (φ : List Addr) (H : Hp) (W : Cw) (ρ : En) (σ : L2.St) : Prop where
  get : ∀ (i : Nat) x, ρ[i]? = some (some x) → ∃ v, σ[i]? = some (some v) ∧ VR Γ φ H W x v
theorem RE.mono {Γ φ φ' H H' W W' ρ σ} (r : RE Γ φ H W ρ σ) (a : Stp φ φ' H H') (w : ∀ c v, W c v → W' c v) : RE Γ φ' H' W' ρ σ :=
  ⟨fun i x e => let ⟨v, e1, h⟩ := r.get i x e; ⟨v, e1, VR.mono a w x v h⟩⟩
theorem slot_some {ρ : En} {i : Nat} {x : PV} (h : slot ρ i = some x) : ρ[i]? = some (some x) := by
  unfold slot at h
  split at h
  · rename_i e
    rw [e, Option.some.inj h]
  · cases h

/-! ### the heap grows, is written -/
theorem tabs_upd {T : List (Addr × Str)} {H : Hp} {p : Addr} {o : HO} (h : LamX.Tabs T H) (n : H p = none) : LamX.Tabs T (upd H p o) :=
  h.ext fun b u e => by rw [upd_ne (ne_of_none e n)]; exact e
theorem stp_new {φ : List Addr} {H : Hp} {p : Addr} {o : HO} (n : H p = none) : Stp φ φ H (upd H p o) :=
  ⟨fun _ _ h => h, fun _ h => .inl h, fun b u e _ _ => by rw [upd_ne (ne_of_none e n)]; exact e, fun b ps e => ⟨ps, by rw [upd_ne (ne_of_none e n)]; exact e⟩⟩
theorem stp_add {φ : List Addr} {H : Hp} {p : Addr} {o : HO} (n : H p = none) : Stp φ (φ ++ [p]) H (upd H p o) :=
  ⟨fun k a h => by
      have hk : k < φ.length := (List.getElem?_eq_some_iff.mp h).1
      rw [List.getElem?_append_left hk]; exact h,
    fun a h => (List.mem_append.mp h).elim .inl fun z => .inr fun vs e => (by rw [List.mem_singleton.mp z, n] at e; cases e), fun b u e _ _ => by rw [upd_ne (ne_of_none e n)]; exact e, fun b ps e => ⟨ps, by rw [upd_ne (ne_of_none e n)]; exact e⟩⟩
theorem OR.mono {Γ φ φ' H H' W W' o a} (s : Stp φ φ' H H') (w : ∀ c v, W c v → W' c v) (h : OR Γ φ H W o a) (k : ∀ vs, H a = some (.lst vs) → H' a = some (.lst vs)) : OR Γ φ' H' W' o a := by
  cases o with
  | lst f xs =>
    cases f with
    | false =>
      obtain ⟨vs, e, r⟩ := h
      exact ⟨vs, k vs e, VRs.mono s w xs vs r⟩
    | true =>
      obtain ⟨vs, e, r⟩ := h
      exact ⟨vs, s.sqF e, VRs.mono s w xs vs r⟩
  | dct0 => exact s.fix (show H a = some (.dK []) from h) (fun _ z => nomatch z) fun _ z => nomatch z
  | dead => trivial
/-- an object that is no list is laid -/
theorem HR.new {Γ φ H W W' h} (r : HR Γ φ H W h) {p : Addr} {o : HO} (n : H p = none) (w : ∀ c v, W c v → W' c v) : HR Γ φ (upd H p o) W' h :=
  ⟨r.len, fun k u a e1 e2 => (r.at_ k u a e1 e2).mono (stp_new n) w fun vs e => by rw [upd_ne (ne_of_none e n)]; exact e, r.inj, tabs_upd r.tabs n⟩
/-- an object gets the next place -/
theorem HR.add {Γ φ H W W' h} (r : HR Γ φ H W h) {p : Addr} {o : HO} {u : HV} (n : H p = none) (w : ∀ c v, W c v → W' c v) (q : OR Γ (φ ++ [p]) (upd H p o) W' u p) : HR Γ (φ ++ [p]) (upd H p o) W' (h ++ [u]) := by
  have s := stp_add (φ := φ) (o := o) n
  have out : ∀ {k : Nat} {a : Addr} {xs : List PV}, φ[k]? = some a → h[k]? = some (.lst false xs) → a ≠ p := fun {k a xs} e1 e2 z => by
    obtain ⟨vs, e, _⟩ := r.at_ k _ a e2 e1
    rw [z, n] at e
    cases e
  refine ⟨by rw [List.length_append, List.length_append, r.len]; rfl, fun k v a e1 e2 => ?_, fun k m a xs ys e1 e2 e3 e4 => ?_, tabs_upd r.tabs n⟩
  · by_cases hk : k < h.length
    · rw [List.getElem?_append_left hk] at e1
      rw [List.getElem?_append_left (by rw [r.len]; exact hk)] at e2
      exact (r.at_ k v a e1 e2).mono s w fun vs e => by rw [upd_ne (ne_of_none e n)]; exact e
    · have hk1 : k < (h ++ [u]).length := (List.getElem?_eq_some_iff.mp e1).1
      rw [List.length_append, List.length_singleton] at hk1
      have ek : k = h.length := by omega
      subst ek
      rw [List.getElem?_concat_length] at e1
      rw [← r.len, List.getElem?_concat_length] at e2
      cases e1
      cases e2
      exact q
  · have key : ∀ {k m : Nat} {xs ys : List PV}, (φ ++ [p])[k]? = some a → (φ ++ [p])[m]? = some a → (h ++ [u])[k]? = some (.lst false xs) → (h ++ [u])[m]? = some (.lst false ys) → k < h.length → k = m := fun {k m xs ys} e1 e2 e3 e4 hk => by
      rw [List.getElem?_append_left (by rw [r.len]; exact hk)] at e1
      rw [List.getElem?_append_left hk] at e3
      by_cases hm : m < h.length
      · rw [List.getElem?_append_left (by rw [r.len]; exact hm)] at e2
        rw [List.getElem?_append_left hm] at e4
        exact r.inj k m a xs ys e1 e2 e3 e4
      · have hm1 : m < (h ++ [u]).length := (List.getElem?_eq_some_iff.mp e4).1
        rw [List.length_append, List.length_singleton] at hm1
        have em : m = h.length := by omega
        subst em
        rw [← r.len, List.getElem?_concat_length] at e2
        cases e2
        exact absurd rfl (out e1 e3)
    by_cases hk : k < h.length
    · exact key e1 e2 e3 e4 hk
    · by_cases hm : m < h.length
      · exact (key e2 e1 e4 e3 hm).symm
      · have hk1 : k < (h ++ [u]).length := (List.getElem?_eq_some_iff.mp e3).1
        have hm1 : m < (h ++ [u]).length := (List.getElem?_eq_some_iff.mp e4).1
        rw [List.length_append, List.length_singleton] at hk1 hm1
        omega
/-- a list of ours is written -/
theorem HR.write {Γ φ H W h} (r : HR Γ φ H W h) {n : Nat} {a : Addr} {xs ys : List PV} {us : List V} (e : φ[n]? = some a) (e1 : h[n]? = some (.lst false xs)) (q : VRs Γ φ H W ys us) {W' : Cw} (w' : ∀ c v, W c v → W' c v) :
    Stp φ φ H (upd H a (.lst us)) ∧ HR Γ φ (upd H a (.lst us)) W' (h.set n (.lst false ys)) := by
  obtain ⟨vs, ea, _⟩ := r.at_ n _ a e1 e
  have mem : a ∈ φ := List.mem_of_getElem? e
  have s : Stp φ φ H (upd H a (.lst us)) := by
    refine ⟨fun _ _ z => z, fun _ z => .inl z, fun b o eb _ l => ?_, fun b ps eb => ⟨ps, ?_⟩⟩
    · have ne : b ≠ a := fun z => by
        rw [z, ea] at eb
        exact l ⟨vs, (Option.some.inj eb).symm⟩ (by rw [z]; exact mem)
      rw [upd_ne ne]; exact eb
    · have ne : b ≠ a := fun z => by
        rw [z, ea] at eb
        cases eb
      rw [upd_ne ne]; exact eb
  have hn : n < h.length := (List.getElem?_eq_some_iff.mp e1).1
  refine ⟨s, by rw [List.length_set]; exact r.len, fun k o b q1 q2 => ?_, fun k m b x y q1 q2 q3 q4 => ?_, ?_⟩
  · by_cases hk : k = n
    · subst hk
      rw [List.getElem?_set_self hn] at q1
      rw [e] at q2
      cases q1
      cases q2
      exact ⟨us, upd_same, VRs.mono s w' ys us q⟩
    · rw [List.getElem?_set_ne (Ne.symm hk)] at q1
      have old := r.at_ k o b q1 q2
      cases o with
      | lst f zs =>
        cases f with
        | false =>
          have nb : b ≠ a := fun z => by
            subst z
            exact hk (r.inj k n b zs xs q2 e q1 e1)
          exact old.mono s w' fun vs' ev => by rw [upd_ne nb]; exact ev
        | true =>
          obtain ⟨vs', ev, rv⟩ := old
          exact ⟨vs', s.sqF ev, VRs.mono s w' zs vs' rv⟩
      | dct0 =>
        have eb : H b = some (.dK []) := old
        exact s.fix eb (fun _ z => nomatch z) fun _ z => nomatch z
      | dead => trivial
  · have low : ∀ {k : Nat} {x : List PV}, (h.set n (.lst false ys))[k]? = some (.lst false x) → ∃ z, h[k]? = some (.lst false z) := fun {k x} q => by
      by_cases hk : k = n
      · exact ⟨xs, by rw [hk]; exact e1⟩
      · rw [List.getElem?_set_ne (Ne.symm hk)] at q
        exact ⟨x, q⟩
    obtain ⟨z, q3'⟩ := low q3
    obtain ⟨z', q4'⟩ := low q4
    exact r.inj k m b z z' q1 q2 q3' q4'
  · intro p hp
    obtain ⟨ps, e1, e2, e3⟩ := r.tabs p hp
    have np : p.1 ≠ a := fun z => by
      rw [z, ea] at e1
      cases e1
    refine ⟨ps, by rw [upd_ne np]; exact e1, e2, fun pos cv hc => ?_⟩
    obtain ⟨c, f1, f2⟩ := e3 pos cv hc
    refine ⟨c, f1, ?_⟩
    have nc : c ≠ a := fun z => by
      rw [z, ea] at f2
      unfold LamX.CodeO at f2
      cases f2
    rw [upd_ne nc]; exact f2
end EV
set_option linter.all false
set_option maxRecDepth 100000
set_option maxHeartbeats 1000000
/-! Ev3: what a run promises, as readings; how they join. -/
namespace EV
open PySem PySem.Spec PyProof.Rows L2

structure Ct where
  Γ : Gm
  X : Cx
  flag : Bool
  capd : List Nat
  E : XK
/-- a cell of this frame's own, by the slot -/
def Own (X : Cx) (capd : List Nat) (σ : L2.St) (c : Addr) (v : V) : Prop := ∃ (i : Nat) (x : Str), X.N[i]? = some x ∧ σ[i]? = some (some v) ∧ X.env.cells.lookup x = some c ∧ ((i ∈ capd ∧ X.env.kindOf x = some .cell) ∨ X.env.kindOf x = some .free)
def Ct.W (C : Ct) (σ : L2.St) (H : Hp) : Cw := fun c v => Trk H c v ∨ (C.flag = true ∧ Own C.X C.capd σ c v)
def Ct.Ex (C : Ct) : XK := fun cls d H => C.flag = false ∧ C.E cls d H
theorem Trk.mono {φ φ' H H' c v} (s : Stp φ φ' H H') (h : Trk H c v) : Trk H' c v := by
  obtain ⟨o, u, e, d, r⟩ := h
  exact ⟨o, u, s.fix e (fun _ z => nomatch z) (fun _ z => nomatch z), d, r⟩
theorem Ct.wm {C : Ct} {φ φ' σ H H'} (s : Stp φ φ' H H') : ∀ c v, C.W σ H c v → C.W σ H' c v := fun c v h => h.elim (fun z => .inl (z.mono s)) .inr
structure Rl (C : Ct) (φ : List Addr) (h : Hh) (ρ : En) (σ : L2.St) (H : Hp) : Prop where
  hr : HR C.Γ φ H (C.W σ H) h
  re : RE C.Γ φ H (C.W σ H) ρ σ
theorem Rl.on {C : Ct} {φ φ' h h' ρ σ H H'} (r : Rl C φ h ρ σ H) (s : Stp φ φ' H H') (k : HR C.Γ φ' H' (C.W σ H') h') : Rl C φ' h' ρ σ H' := ⟨k, r.re.mono s (Ct.wm s)⟩
/-- an error leaves with its value -/
def PoX (Γ : Gm) (φ : List Addr) (H : Hp) (c : Nat) (v : PV) (h' : Hh) (E : XK) : Prop :=
  ∀ φ' H' d y, Stp φ φ' H H' → HR Γ φ' H' (Trk H') h' → H' d = some (.xd [("value", y)]) → VR Γ φ' H' (Trk H') v y → E (.ref (Γ.clsA c)) (some d) H'
theorem PoX.step {Γ φ φ1 H H1 c v h' E} (p : PoX Γ φ H c v h' E) (s : Stp φ φ1 H H1) : PoX Γ φ1 H1 c v h' E := fun φ' H' d y s' => p φ' H' d y (s.trans s')
/-- what is promised of a run's end -/
def Po {α : Type} (C : Ct) (φ : List Addr) (σ : L2.St) (H : Hp) (r : Rz α) (k : α → List Addr → Hh → Hp → Prop) : Prop := match r with
  | .ok a h' => ∀ φ' H', Stp φ φ' H H' → HR C.Γ φ' H' (C.W σ H') h' → k a φ' h' H'
  | .ex c v h' => PoX C.Γ φ H c v h' C.Ex
  | .err => False
theorem Po.step {α : Type} {C : Ct} {φ φ1 σ H H1} {r : Rz α} {k} (p : Po C φ σ H r k) (s : Stp φ φ1 H H1) : Po C φ1 σ H1 r k := by
  cases r with
  | ok a h' => exact fun φ' H' s' => p φ' H' (s.trans s')
  | ex c v h' => exact PoX.step p s
  | err => exact p
theorem Po.imp {α : Type} {C : Ct} {φ σ H} {r : Rz α} {k k'} (p : Po C φ σ H r k) (i : ∀ a φ' h' H', Stp φ φ' H H' → HR C.Γ φ' H' (C.W σ H') h' → k a φ' h' H' → k' a φ' h' H') : Po C φ σ H r k' := by
  cases r with
  | ok a h' => exact fun φ' H' s' hr => i a φ' h' H' s' hr (p φ' H' s' hr)
  | ex c v h' => exact p
  | err => exact p
/-- a run, then another -/
theorem Po.bnd {α β : Type} {C : Ct} {φ σ H} {r : Rz α} {f : α → Hh → Rz β} {k} (p : Po C φ σ H (r.bnd f) k) : Po C φ σ H r fun a φ' h' H' => Po C φ' σ H' (f a h') k := by
  cases r with
  | ok a h' => exact fun φ' H' s' _ => Po.step (show Po C φ σ H (f a h') k from p) s'
  | ex c v h' => exact p
  | err => exact p
theorem Po.ok {α : Type} {C : Ct} {φ σ H} {a : α} {h k} (p : Po C φ σ H (.ok a h) k) (hr : HR C.Γ φ H (C.W σ H) h) : k a φ h H := p φ H Stp.refl hr

def tE (C : Ct) (f : En → Hh → Rz PV) : TE := fun σ H Q => ∃ φ ρ h, Rl C φ h ρ σ H ∧ Po C φ σ H (f ρ h) fun v φ' _ H' => ∀ V, VR C.Γ φ' H' (C.W σ H') v V → Q V H'
def tT (C : Ct) (f : En → Hh → Rz Bool) : TT := fun σ H Q => ∃ φ ρ h, Rl C φ h ρ σ H ∧ Po C φ σ H (f ρ h) fun b _ _ H' => Q b H'
def tA (C : Ct) (f : En → Hh → Rz (List PV)) : TA := fun σ H Q => ∃ φ ρ h, Rl C φ h ρ σ H ∧ Po C φ σ H (f ρ h) fun vs φ' _ H' => ∀ Vs, VRs C.Γ φ' H' (C.W σ H') vs Vs → Q Vs H'
def tO (C : Ct) (f : En → Hh → Rz (Option Int)) : TO := fun σ H Q => ∃ φ ρ h, Rl C φ h ρ σ H ∧ Po C φ σ H (f ρ h) fun o _ _ H' => Q o H'
/-- a target: it may write slots -/
def PoG {α : Type} (C : Ct) (φ : List Addr) (H : Hp) (r : Rz α) (k : α → List Addr → Hh → Hp → Prop) : Prop := match r with
  | .ok a h' => ∀ φ' H', Stp φ φ' H H' → k a φ' h' H'
  | .ex c v h' => PoX C.Γ φ H c v h' C.Ex
  | .err => False
/-- but for some slots nothing is written -/
def Agr (ws : List Nat) (σ σ' : L2.St) : Prop := σ'.length = σ.length ∧ ∀ i, i ∉ ws → σ'[i]? = σ[i]?
def tG (C : Ct) (ws : List Nat) (f : PV → En → Hh → Rz En) : TG := fun V σ H Q => ∃ φ ρ h v, Rl C φ h ρ σ H ∧ VR C.Γ φ H (C.W σ H) v V ∧ PoG C φ H (f v ρ h) fun ρ' φ' h' H' => ∀ σ', Rl C φ' h' ρ' σ' H' → Agr ws σ σ' → Q σ' H'
def tGs (C : Ct) (ws : List Nat) (f : List PV → En → Hh → Rz En) : TGs := fun Vs σ H Q => ∃ φ ρ h vs, Rl C φ h ρ σ H ∧ VRs C.Γ φ H (C.W σ H) vs Vs ∧ PoG C φ H (f vs ρ h) fun ρ' φ' h' H' => ∀ σ', Rl C φ' h' ρ' σ' H' → Agr ws σ σ' → Q σ' H'
def PoF (C : Ct) (D : Ends) (f : Fl) (φ' : List Addr) (h' : Hh) (H' : Hp) : Prop := match f with
  | .nx ρ => ∀ σ', Rl C φ' h' ρ σ' H' → D.nx σ' H'
  | .bk ρ => ∀ σ', Rl C φ' h' ρ σ' H' → D.bk σ' H'
  | .ct ρ => ∀ σ', Rl C φ' h' ρ σ' H' → D.ct σ' H'
  | .rt v => HR C.Γ φ' H' (Trk H') h' → ∀ V, VR C.Γ φ' H' (Trk H') v V → D.rt V H'
def tS (C : Ct) (f : En → Hh → Rz Fl) : TS := fun D σ H => ∃ φ ρ h, Rl C φ h ρ σ H ∧ PoG C φ H (f ρ h) (PoF C D)
theorem PoG.step {α : Type} {C : Ct} {φ φ1 H H1} {r : Rz α} {k} (p : PoG C φ H r k) (s : Stp φ φ1 H H1) : PoG C φ1 H1 r k := by
  cases r with
  | ok a h' => exact fun φ' H' s' => p φ' H' (s.trans s')
  | ex c v h' => exact PoX.step p s
  | err => exact p
theorem PoG.imp {α : Type} {C : Ct} {φ H} {r : Rz α} {k k'} (p : PoG C φ H r k) (i : ∀ a φ' h' H', Stp φ φ' H H' → k a φ' h' H' → k' a φ' h' H') : PoG C φ H r k' := by
  cases r with
  | ok a h' => exact fun φ' H' s' => i a φ' h' H' s' (p φ' H' s')
  | ex c v h' => exact p
  | err => exact p
theorem PoG.bnd {α β : Type} {C : Ct} {φ H} {r : Rz α} {f : α → Hh → Rz β} {k} (p : PoG C φ H (r.bnd f) k) : PoG C φ H r fun a φ' h' H' => PoG C φ' H' (f a h') k := by
  cases r with
  | ok a h' => exact fun φ' H' s' => PoG.step (show PoG C φ H (f a h') k from p) s'
  | ex c v h' => exact p
  | err => exact p
/-- an expression within a statement -/
theorem PoG.po {α : Type} {C : Ct} {φ σ H} {r : Rz α} {k} (p : PoG C φ H r k) : Po C φ σ H r k := by
  cases r with
  | ok a h' => exact fun φ' H' s' _ => p φ' H' s'
  | ex c v h' => exact p
  | err => exact p
theorem tE.mk {C : Ct} {f σ H Q φ ρ h} (r : Rl C φ h ρ σ H) (p : Po C φ σ H (f ρ h) fun v φ' h' H' => ∀ V, VR C.Γ φ' H' (C.W σ H') v V → Rl C φ' h' ρ σ H' → Q V H') : tE C f σ H Q :=
  ⟨φ, ρ, h, r, p.imp fun a φ' h' H' s hr q V v => q V v (r.on s hr)⟩
theorem tT.mk {C : Ct} {f σ H Q φ ρ h} (r : Rl C φ h ρ σ H) (p : Po C φ σ H (f ρ h) fun v φ' h' H' => Rl C φ' h' ρ σ H' → Q v H') : tT C f σ H Q :=
  ⟨φ, ρ, h, r, p.imp fun a φ' h' H' s hr q => q (r.on s hr)⟩
theorem tA.mk {C : Ct} {f σ H Q φ ρ h} (r : Rl C φ h ρ σ H) (p : Po C φ σ H (f ρ h) fun v φ' h' H' => ∀ V, VRs C.Γ φ' H' (C.W σ H') v V → Rl C φ' h' ρ σ H' → Q V H') : tA C f σ H Q :=
  ⟨φ, ρ, h, r, p.imp fun a φ' h' H' s hr q V v => q V v (r.on s hr)⟩
theorem tO.mk {C : Ct} {f σ H Q φ ρ h} (r : Rl C φ h ρ σ H) (p : Po C φ σ H (f ρ h) fun v φ' h' H' => Rl C φ' h' ρ σ H' → Q v H') : tO C f σ H Q :=
  ⟨φ, ρ, h, r, p.imp fun a φ' h' H' s hr q => q (r.on s hr)⟩

/-! ### what the text must be: static facts, and the roles -/
structure Si where
  sc : Scope
  N : List Str
  flag : Bool
  capd : List Nat
  fnm : List Str
  gnm : List Str
  cnm : List Str
  lams : List LamI
  /-- keyword calls that are known: the def, how many by place, the names, the order -/
  kws : List (Nat × Nat × List Str × List Nat)
def visB (sc : Scope) (x : Str) : Bool := match sc.names.lookup x with
  | some .local => true
  | some .cell => true
  | some .free => true
  | _ => false
theorem vis_of {sc : Scope} {x : Str} (h : visB sc x = true) : Vis sc x := by
  unfold visB at h
  split at h
  · rename_i e; exact .inl e
  · rename_i e; exact .inr (.inl e)
  · rename_i e; exact .inr (.inr e)
  · cases h
def glB (sc : Scope) (x : Str) : Bool := match sc.names.lookup x with
  | some .globalImplicit => true
  | _ => false
def okName (x : Str) : Bool := !(x == ("__debug__" : Str)) && !(x == ("__classdict__" : Str))
end EV
set_option linter.all false
set_option maxRecDepth 100000
set_option maxHeartbeats 1000000
/-! Ev4: operators by values. -/
namespace EV
open PySem PySem.Spec PyProof.Rows L2

theorem _root_.L2.PE.imp {X : Cx} {e : Expr} {t t' : TE} (h : PE X e t) (i : ∀ σ H Q, t' σ H Q → t σ H Q) : PE X e t' := ⟨fun pins s σ H Q I q => h.run pins s σ H Q I (i σ H Q q)⟩
theorem _root_.L2.PT.imp {X : Cx} {e : Expr} {t t' : TT} (h : PT X e t) (i : ∀ σ H Q, t' σ H Q → t σ H Q) : PT X e t' := ⟨fun pins s σ H Q I q => h.run pins s σ H Q I (i σ H Q q)⟩
theorem _root_.L2.PW.imp {X : Cx} {e : Expr} {t t' : TT} (h : PW X e t) (i : ∀ σ H Q, t' σ H Q → t σ H Q) : PW X e t' := ⟨fun w pins s σ H Q I q => h.run w pins s σ H Q I (i σ H Q q)⟩
theorem _root_.L2.PA.imp {X : Cx} {e : List Expr} {t t' : TA} (h : PA X e t) (i : ∀ σ H Q, t' σ H Q → t σ H Q) : PA X e t' := ⟨fun p pins s σ H Q I q => h.run p pins s σ H Q I (i σ H Q q)⟩
theorem _root_.L2.PS.imp {X : Cx} {e : Stmt} {t t' : TS} (h : PS X e t) (i : ∀ D σ H, t' D σ H → t D σ H) : PS X e t' := ⟨fun pins s σ H D I q => h.run pins s σ H D I (i D σ H q)⟩
theorem _root_.L2.PSs.imp {X : Cx} {e : List Stmt} {t t' : TS} (h : PSs X e t) (i : ∀ D σ H, t' D σ H → t D σ H) : PSs X e t' := ⟨fun pins s σ H D I q => h.run pins s σ H D I (i D σ H q)⟩

theorem ref_add {Γ φ H W h} {p : Addr} (r : φ.length = List.length (α := HV) h) : VR Γ (φ ++ [p]) H W (.ref h.length) (.ref p) := by
  simp only [VR]
  exact ⟨p, by rw [← r, List.getElem?_concat_length], rfl⟩
theorem Po.newL {C : Ct} {φ σ H xs h k vs} (po : Po C φ σ H (newL xs h) k) (r : HR C.Γ φ H (C.W σ H) h) (q : VRs C.Γ φ H (C.W σ H) xs vs) {p : Addr} (n : H p = none) :
    k (.ref h.length) (φ ++ [p]) (h ++ [.lst false xs]) (upd H p (.lst vs)) := by
  have s := stp_add (φ := φ) (o := HO.lst vs) n
  exact po _ _ s (r.add n (Ct.wm s) ⟨vs, upd_same, VRs.mono s (Ct.wm s) _ _ q⟩)
theorem Po.ok' {α : Type} {C : Ct} {φ σ H} {a : α} {h k} (p : Po C φ σ H (.ok a h) k) (hr : HR C.Γ φ H (C.W σ H) h) : k a φ h H := p φ H Stp.refl hr
theorem HR.isFl {Γ φ H W h} (r : HR Γ φ H W h) {n : Nat} {xs : List PV} (e : isFl h n = some xs) {V} (v : VR Γ φ H W (.ref n) V) : ∃ a vs, V = .ref a ∧ φ[n]? = some a ∧ h[n]? = some (.lst false xs) ∧ H a = some (.lst vs) ∧ VRs Γ φ H W xs vs := by
  unfold EV.isFl at e
  split at e
  · rename_i ys q
    cases e
    simp only [VR] at v
    obtain ⟨a, ea, ev⟩ := v
    obtain ⟨vs, e1, e2⟩ := r.at_ n _ a q ea
    exact ⟨a, vs, ev, ea, q, e1, e2⟩
  · cases e
theorem HR.getL {Γ φ H W h} (r : HR Γ φ H W h) {n : Nat} {xs : List PV} (e : getL h n = some xs) {V} (v : VR Γ φ H W (.ref n) V) : ∃ a vs, V = .ref a ∧ SqL Γ.K H a vs ∧ VRs Γ φ H W xs vs := by
  unfold EV.getL at e
  split at e
  · rename_i f ys q
    cases e
    simp only [VR] at v
    obtain ⟨a, ea, ev⟩ := v
    have z := r.at_ n _ a q ea
    cases f with
    | false =>
      obtain ⟨vs, e1, e2⟩ := z
      exact ⟨a, vs, ev, .of e1, e2⟩
    | true =>
      obtain ⟨vs, e1, e2⟩ := z
      exact ⟨a, vs, ev, e1.sq, e2⟩
  · cases e
theorem vr_tup {Γ φ H W xs V} (v : VR Γ φ H W (.tup xs) V) : ∃ p vs, V = .ref p ∧ SqT Γ.K H p vs ∧ VRs Γ φ H W xs vs := by
  simp only [VR] at v
  exact v
theorem vr_int {Γ φ H W i V} (v : VR Γ φ H W (.int i) V) : V = .int i := v
theorem vr_bl {Γ φ H W i V} (v : VR Γ φ H W (.bl i) V) : V = .bl i := v
theorem vr_str {Γ φ H W i V} (v : VR Γ φ H W (.str i) V) : V = .str i := v
theorem vr_non {Γ φ H W V} (v : VR Γ φ H W .non V) : V = .non := v
/-- a new tuple -/
theorem new_tup {C : Ct} {φ σ H h xs vs} (r : HR C.Γ φ H (C.W σ H) h) (q : VRs C.Γ φ H (C.W σ H) xs vs) {p : Addr} (n : H p = none) {k : V → Hp → Prop}
    (po : Po C φ σ H (.ok (.tup xs) h) fun v φ' _ H' => ∀ V, VR C.Γ φ' H' (C.W σ H') v V → k V H') : k (.ref p) (upd H p (.tup vs)) := by
  have s := stp_new (φ := φ) (o := HO.tup vs) n
  refine po _ _ s (r.new n (Ct.wm s)) _ ?_
  simp only [VR]
  exact ⟨p, vs, rfl, SqT.of upd_same, VRs.mono s (Ct.wm s) _ _ q⟩

/-- an operator by the evaluator's values -/
def rV (C : Ct) (f : PV → PV → Hh → Rz PV) : R2 := fun V1 V2 H Q => ∃ σ φ ρ h x y, Rl C φ h ρ σ H ∧ VR C.Γ φ H (C.W σ H) x V1 ∧ VR C.Γ φ H (C.W σ H) y V2 ∧ Po C φ σ H (f x y h) fun v φ' _ H' => ∀ V, VR C.Γ φ' H' (C.W σ H') v V → Q V H'

theorem b2_eq (b : Bool) : b2 b = b2i b := by cases b <;> rfl
section
variable {X : Cx}
theorem op_fdivG : OpR X (binaryOp .FloorDiv) (rI (fun _ j => DivOk j) fun i j => .int (i.fdiv j)) := opI fun i j _ _ _ _ _ hc q =>
  floordiv_int hc.1 q (.inl (PyProof.noPylong_of_log2 hc.2))
theorem bits_le (i : Int) : Builtin.Int.intBits i ≤ i.natAbs.log2 + 1 := by
  unfold Builtin.Int.intBits
  split <;> omega
theorem op_powG : OpR X (binaryOp .Pow) (rI PowOk fun i j => .int (i ^ j.toNat)) := opI fun i j _ _ _ _ _ hc q => by
  obtain ⟨h0, h1⟩ := hc
  refine pow_int h0 ?_ q
  have h2 := bits_le i
  have e : ((j.toNat : Nat) : Int) = j := Int.toNat_of_nonneg h0
  have h3 : (Builtin.Int.intBits i * j.toNat : Nat) ≤ 134217728 := Nat.le_trans (Nat.mul_le_mul_right _ h2) h1
  rw [← e]
  have h4 : ((Builtin.Int.intBits i * j.toNat : Nat) : Int) ≤ (134217728 : Int) := Int.ofNat_le.mpr h3
  rw [Int.natCast_mul] at h4
  exact h4
theorem op_sub_bl : OpR X (binaryOp .Sub) (fun x y H Q => ∃ p q, x = .bl p ∧ y = .bl q ∧ Q (.int (b2 p - b2 q)) H) := by
  intro pins s σ H x y v u Q I rx ry h
  obtain ⟨p, q, rfl, rfl, z⟩ := h
  cases rx
  cases ry
  rw [b2_eq, b2_eq] at z
  exact sub_bool ⟨.int (b2i p - b2i q), H, I.tok _, ⟨_, rfl⟩, z⟩
end
theorem Po.if_ {α : Type} {C : Ct} {φ σ H} {c : Prop} [Decidable c] {r : Rz α} {k} (p : Po C φ σ H (if c then r else .err) k) : c ∧ Po C φ σ H r k := by
  by_cases h : c
  · rw [if_pos h] at p
    exact ⟨h, p⟩
  · rw [if_neg h] at p
    exact p.elim
theorem op_binV {C : Ct} (hK : C.X.K = C.Γ.K) (op : Operator) : OpR C.X (binaryOp op) (rV C (binV op)) := by
  intro pins s σ' H V1 V2 v u Q I r1 r2 hh
  obtain ⟨σ, φ, ρ, h, x, y, rl, vx, vy, po⟩ := hh
  unfold binV at po
  split at po
  · obtain rfl := vr_int vx; obtain rfl := vr_int vy
    exact op_add pins s σ' H _ _ v u Q I r1 r2 ⟨_, _, rfl, rfl, po.ok' rl.hr _ rfl⟩
  · obtain rfl := vr_int vx; obtain rfl := vr_int vy
    exact op_sub pins s σ' H _ _ v u Q I r1 r2 ⟨_, _, rfl, rfl, po.ok' rl.hr _ rfl⟩
  · obtain ⟨c, po⟩ := po.if_
    obtain rfl := vr_int vx; obtain rfl := vr_int vy
    exact op_mulW pins s σ' H _ _ v u Q I r1 r2 ⟨_, _, rfl, rfl, c, po.ok' rl.hr _ rfl⟩
  · obtain ⟨c, po⟩ := po.if_
    obtain rfl := vr_int vx; obtain rfl := vr_int vy
    exact op_fdivG pins s σ' H _ _ v u Q I r1 r2 ⟨_, _, rfl, rfl, c, po.ok' rl.hr _ rfl⟩
  · obtain ⟨c, po⟩ := po.if_
    obtain rfl := vr_int vx; obtain rfl := vr_int vy
    exact op_modN pins s σ' H _ _ v u Q I r1 r2 ⟨_, _, rfl, rfl, c, po.ok' rl.hr _ rfl⟩
  · obtain ⟨c, po⟩ := po.if_
    obtain rfl := vr_int vx; obtain rfl := vr_int vy
    exact op_powG pins s σ' H _ _ v u Q I r1 r2 ⟨_, _, rfl, rfl, c, po.ok' rl.hr _ rfl⟩
  · obtain ⟨c, po⟩ := po.if_
    obtain rfl := vr_int vx; obtain rfl := vr_int vy
    exact op_shl pins s σ' H _ _ v u Q I r1 r2 ⟨_, _, rfl, rfl, c, po.ok' rl.hr _ rfl⟩
  · obtain rfl := vr_bl vx; obtain rfl := vr_bl vy
    exact op_sub_bl pins s σ' H _ _ v u Q I r1 r2 ⟨_, _, rfl, rfl, po.ok' rl.hr _ rfl⟩
  · obtain ⟨c, po⟩ := po.if_
    obtain ⟨p, vs, e1, s1, q1⟩ := vr_tup vx
    obtain ⟨p', vs', e2, s2, q2⟩ := vr_tup vy
    subst e1
    subst e2
    refine op_catA pins s σ' H _ _ v u Q I r1 r2 ⟨p, p', vs, vs', rfl, rfl, by rw [hK]; exact s1, by rw [hK]; exact s2, by rw [q1.len, q2.len]; exact c, fun e => ?_, fun e e' => ?_, fun e e' t nt => new_tup rl.hr (q1.app q2) nt po⟩
    · refine po.ok' rl.hr _ ?_
      simp only [VR]
      refine ⟨p', vs', rfl, s2, ?_⟩
      have := q1.app q2
      rw [e] at this
      exact this
    · refine po.ok' rl.hr _ ?_
      simp only [VR]
      refine ⟨p, vs, rfl, s1, ?_⟩
      have := q1.app q2
      rw [e', List.append_nil] at this
      exact this
  · split at po
    · rename_i xs ys e1 e2
      obtain ⟨c, po⟩ := po.if_
      obtain ⟨a, vs, ea, _, _, ha, qa⟩ := rl.hr.isFl e1 vx
      obtain ⟨b, us, eb, _, _, hb, qb⟩ := rl.hr.isFl e2 vy
      subst ea
      subst eb
      exact op_cat pins s σ' H _ _ v u Q I r1 r2 ⟨a, b, vs, us, rfl, rfl, ha, hb, by rw [qa.len, qb.len]; exact c, fun p n => po.newL rl.hr (qa.app qb) n _ (ref_add rl.hr.len)⟩
    · exact po.elim
  · split at po
    · rename_i xs e1
      obtain ⟨⟨c0, c1, c2⟩, po⟩ := po.if_
      obtain ⟨a, vs, ea, _, _, ha, qa⟩ := rl.hr.isFl e1 vx
      subst ea
      obtain rfl := vr_int vy
      exact op_rep pins s σ' H _ _ v u Q I r1 r2 ⟨a, _, vs, rfl, rfl, ha, by omega, by omega, by rw [qa.len]; exact c2, fun p n => po.newL rl.hr (qa.rep _) n _ (ref_add rl.hr.len)⟩
    · exact po.elim
  · exact po.elim

/-! ### values as data -/
theorem ofK {X : Cx} {K : PySem.W.Frag} (h : X.K = K) {H p xs} (s : SqT K H p xs) : SqT X.K H p xs := by rw [h]; exact s
theorem ofKL {X : Cx} {K : PySem.W.Frag} (h : X.K = K) {H p xs} (s : SqL K H p xs) : SqL X.K H p xs := by rw [h]; exact s
section
variable {X : Cx} {pins : List (Addr × Obj)} {σ : L2.St} {H : Hp} {s : Shared} {Γ : Gm} {φ : List Addr} {W : Cw} {h : Hh}
mutual
theorem reads_val (hK : X.K = Γ.K) (I : Inv X pins σ H s) (g : Nat → Option PyData) (hg : ∀ n d a, g n = some d → φ[n]? = some a → ∃ as, Reads s.heap (.ref a) d as ∧ ∀ kvs, d = .dict kvs → sysModules ∉ as) :
    ∀ (x : PV) (d : PyData) (V : V) (u : Value), PV.data g x = some d → VR Γ φ H W x V → RelV V u → ∃ as, Reads s.heap u d as ∧ ∀ kvs, d = .dict kvs → sysModules ∉ as
  | .non, d, V, u, e, v, r => by
    obtain rfl := vr_non v
    cases e
    cases r
    exact ⟨[], .none, fun _ z => nomatch z⟩
  | .bl b, d, V, u, e, v, r => by
    obtain rfl := vr_bl v
    cases e
    cases r
    exact ⟨[], .bool b, fun _ z => nomatch z⟩
  | .int i, d, V, u, e, v, r => by
    obtain rfl := vr_int v
    cases e
    obtain ⟨t, rfl⟩ := r
    exact ⟨[], .int i t, fun _ z => nomatch z⟩
  | .str z, d, V, u, e, v, r => by
    obtain rfl := vr_str v
    cases e
    obtain ⟨t, rfl⟩ := r
    exact ⟨[], .str z t, fun _ z => nomatch z⟩
  | .tup xs, d, V, u, e, v, r => by
    obtain ⟨p, vs, rfl, st, q⟩ := vr_tup v
    cases r
    simp only [PV.data] at e
    split at e
    · rename_i ds ed
      cases e
      obtain ⟨its, rv, ⟨o, ho, hc, n, hd⟩, _⟩ := I.tuple (ofK hK st)
      obtain ⟨as, h1⟩ := reads_vals hK I g hg xs ds vs its ed q rv
      exact ⟨as, .tuple ho hc hd h1, fun _ z => nomatch z⟩
    · cases e
  | .ref n, d, V, u, e, v, r => by
    simp only [VR] at v
    obtain ⟨a, ea, rfl⟩ := v
    cases r
    exact hg n d a e ea
  | .exc _ c x, d, V, u, e, v, r => by cases e
  | .clo k xs, d, V, u, e, v, r => by cases e
theorem reads_vals (hK : X.K = Γ.K) (I : Inv X pins σ H s) (g : Nat → Option PyData) (hg : ∀ n d a, g n = some d → φ[n]? = some a → ∃ as, Reads s.heap (.ref a) d as ∧ ∀ kvs, d = .dict kvs → sysModules ∉ as) :
    ∀ (xs : List PV) (ds : List PyData) (vs : List V) (us : List Value), PV.datas g xs = some ds → VRs Γ φ H W xs vs → Vals vs us → ∃ as, ReadsAll s.heap us ds as
  | [], ds, vs, us, e, v, r => by
    have ev : vs = [] := v
    subst ev
    cases e
    cases r
    exact ⟨[], .nil⟩
  | x :: xs, ds, vs, us, e, v, r => by
    obtain ⟨y, ys, rfl, v1, v2⟩ := v
    cases r with
    | cons r1 r2 =>
      simp only [PV.datas] at e
      split at e
      · rename_i d ds' e1 e2
        cases e
        obtain ⟨as, a1, a2⟩ := reads_val hK I g hg x d y _ e1 v1 r1
        obtain ⟨bs, b1⟩ := reads_vals hK I g hg xs ds' ys _ e2 v2 r2
        exact ⟨as ++ bs, .cons a1 b1⟩
      · cases e
end
theorem reads_at (hK : X.K = Γ.K) (I : Inv X pins σ H s) (hr : HR Γ φ H W h) : ∀ (k : Nat) (n : Nat) (d : PyData) (a : Addr), dataAt h k n = some d → φ[n]? = some a → ∃ as, Reads s.heap (.ref a) d as ∧ ∀ kvs, d = .dict kvs → sysModules ∉ as
  | 0, n, d, a, e, _ => by cases e
  | k + 1, n, d, a, e, ea => by
    unfold dataAt at e
    split at e
    · rename_i f xs q
      split at e
      · rename_i ds ed
        cases e
        have sq : ∃ vs, SqL Γ.K H a vs ∧ VRs Γ φ H W xs vs := by
          have z := hr.at_ n _ a q ea
          cases f with
          | false =>
            obtain ⟨vs, e1, e2⟩ := z
            exact ⟨vs, .of e1, e2⟩
          | true =>
            obtain ⟨vs, e1, e2⟩ := z
            exact ⟨vs, e1.sq, e2⟩
        obtain ⟨vs, e1, e2⟩ := sq
        obtain ⟨its, rv, ⟨o, m, ho, hc, _, hd⟩, _⟩ := I.list (ofKL hK e1)
        obtain ⟨as, a1⟩ := reads_vals hK I (dataAt h k) (fun n d a e ea => reads_at hK I hr k n d a e ea) xs ds vs its ed e2 rv
        exact ⟨a :: as, .list ho hc hd a1, fun _ z => nomatch z⟩
      · cases e
    · rename_i q
      cases e
      have z : H a = some (.dK []) := hr.at_ n _ a q ea
      obtain ⟨_, hS, vs, r, o, es, ep, e1, e2, e3, e4, e5⟩ := I.hok a _ z
      cases r
      have hl : es.toList = [] := by
        generalize es.toList = l at e5
        cases e5.1
        rfl
      refine ⟨_, .dict (kvs := []) e1 e2.1 e3 (as := []) (bs := []) (by rw [hl]; exact .nil) (by rw [hl]; exact .nil), fun _ _ z => ?_⟩
      have z' : sysModules = a := by simpa using z
      rw [← z', beq_self_eq_true] at hS
      cases hS
    · cases e
end

theorem reads_of {X : Cx} {pins : List (Addr × Obj)} {σ : L2.St} {H : Hp} {s : Shared} {Γ : Gm} {φ : List Addr} {W : Cw} {h : Hh} (hK : X.K = Γ.K) (I : Inv X pins σ H s) (hr : HR Γ φ H W h) {x : PV} {d : PyData} {V : V} {u : Value}
    (e : dataOf h x = some d) (v : VR Γ φ H W x V) (r : RelV V u) : ∃ as, Reads s.heap u d as ∧ ∀ kvs, d = .dict kvs → sysModules ∉ as :=
  reads_val hK I (dataAt h 6) (fun n d a e ea => reads_at hK I hr 6 n d a e ea) x d V u e v r
theorem isNon_iff {Γ φ H W x V} (v : VR Γ φ H W x V) : decide (V = .non) = isNon x := by
  cases x with
  | non => obtain rfl := vr_non v; rfl
  | bl b => obtain rfl := vr_bl v; rfl
  | int b => obtain rfl := vr_int v; rfl
  | str b => obtain rfl := vr_str v; rfl
  | tup b => obtain ⟨p, vs, rfl, _⟩ := vr_tup v; rfl
  | ref b =>
    simp only [VR] at v
    obtain ⟨p, _, rfl⟩ := v
    rfl
  | exc c b =>
    simp only [VR] at v
    obtain ⟨p, _, _, rfl, _⟩ := v
    rfl
  | clo c b =>
    simp only [VR] at v
    obtain ⟨_, p, _, _, _, _, rfl, _⟩ := v
    rfl
theorem flat_eq {Γ φ H W x V} (v : VR Γ φ H W x V) (f : flatP x = true) : flatV V = true ∧ ∀ y U, VR Γ φ H W y U → flatP y = true → eqV U V = eqF y x := by
  cases x with
  | int i =>
    obtain rfl := vr_int v
    refine ⟨rfl, fun y U u g => ?_⟩
    cases y with
    | int j => obtain rfl := vr_int u; rfl
    | str j => obtain rfl := vr_str u; rfl
    | _ => cases g
  | str i =>
    obtain rfl := vr_str v
    refine ⟨rfl, fun y U u g => ?_⟩
    cases y with
    | int j => obtain rfl := vr_int u; rfl
    | str j => obtain rfl := vr_str u; rfl
    | _ => cases g
  | _ => cases f
theorem flat_all {Γ φ H W} : ∀ {xs vs}, VRs Γ φ H W xs vs → xs.all flatP = true → vs.all flatV = true
  | [], vs, h, _ => by
    have e : vs = [] := h
    rw [e]; rfl
  | x :: xs, vs, h, f => by
    obtain ⟨v, r, rfl, h1, h2⟩ := h
    rw [List.all_cons, Bool.and_eq_true] at f ⊢
    exact ⟨(flat_eq h1 f.1).1, flat_all h2 f.2⟩
theorem flat_any {Γ φ H W x V} (v : VR Γ φ H W x V) (fx : flatP x = true) : ∀ {xs vs}, VRs Γ φ H W xs vs → xs.all flatP = true → inV V vs = xs.any fun y => eqF y x
  | [], vs, h, _ => by
    have e : vs = [] := h
    rw [e]; rfl
  | y :: xs, vs, h, f => by
    obtain ⟨u, r, rfl, h1, h2⟩ := h
    rw [List.all_cons, Bool.and_eq_true] at f
    have ih := flat_any v fx h2 f.2
    unfold inV at ih ⊢
    rw [List.any_cons, List.any_cons, ih, (flat_eq v fx).2 y u h1 f.1]
theorem op_cmpV {C : Ct} (hK : C.X.K = C.Γ.K) (hu : C.X.A.units + 65 < cLine) (op : CmpOp) : OpR C.X (compareOp op) (rV C (cmpV op)) := by
  intro pins s σ' H V1 V2 v u Q I r1 r2 hh
  obtain ⟨σ, φ, ρ, h, x, y, rl, vx, vy, po⟩ := hh
  have hu2 : C.X.A.units + 64 < cLine := by omega
  have fin : ∀ {k k' : Bool}, Po C φ σ H (.ok (.bl k) h) (fun v φ' _ H' => ∀ V, VR C.Γ φ' H' (C.W σ H') v V → Q V H') → k = k' → EP C.X pins σ' Q (.bool k') s := fun {k k'} p e => by
    subst e
    exact ⟨.bl k, H, I, rfl, p.ok' rl.hr _ rfl⟩
  unfold cmpV at po
  split at po
  · obtain rfl := vr_int vx; obtain rfl := vr_int vy
    exact op_lt pins s σ' H _ _ v u Q I r1 r2 ⟨_, _, rfl, rfl, po.ok' rl.hr _ rfl⟩
  · obtain rfl := vr_int vx; obtain rfl := vr_int vy
    exact op_le pins s σ' H _ _ v u Q I r1 r2 ⟨_, _, rfl, rfl, po.ok' rl.hr _ rfl⟩
  · obtain rfl := vr_int vx; obtain rfl := vr_int vy
    exact op_gt pins s σ' H _ _ v u Q I r1 r2 ⟨_, _, rfl, rfl, po.ok' rl.hr _ rfl⟩
  · obtain rfl := vr_int vx; obtain rfl := vr_int vy
    exact op_ge pins s σ' H _ _ v u Q I r1 r2 ⟨_, _, rfl, rfl, po.ok' rl.hr _ rfl⟩
  · obtain rfl := vr_non vy
    refine op_isN pins s σ' H _ _ v u Q I r1 r2 ⟨rfl, ?_⟩
    rw [isNon_iff vx]
    exact po.ok' rl.hr _ rfl
  · obtain rfl := vr_non vy
    refine op_notN pins s σ' H _ _ v u Q I r1 r2 ⟨rfl, ?_⟩
    rw [isNon_iff vx]
    exact po.ok' rl.hr _ rfl
  · obtain rfl := vr_int vx; obtain rfl := vr_int vy
    obtain ⟨t, rfl⟩ := r1
    obtain ⟨t', rfl⟩ := r2
    exact eq_int (fin po (Bool.beq_eq_decide_eq _ _).symm)
  · obtain rfl := vr_int vx; obtain rfl := vr_int vy
    obtain ⟨t, rfl⟩ := r1
    obtain ⟨t', rfl⟩ := r2
    exact ne_int (fin po (congrArg not (Bool.beq_eq_decide_eq _ _).symm))
  · obtain rfl := vr_str vx; obtain rfl := vr_str vy
    obtain ⟨t, rfl⟩ := r1
    obtain ⟨t', rfl⟩ := r2
    exact eq_str (fin po (Bool.beq_eq_decide_eq _ _).symm)
  · obtain rfl := vr_str vx; obtain rfl := vr_str vy
    obtain ⟨t, rfl⟩ := r1
    obtain ⟨t', rfl⟩ := r2
    exact ne_str (fin po (congrArg not (Bool.beq_eq_decide_eq _ _).symm))
  · obtain rfl := vr_bl vx; obtain rfl := vr_bl vy
    cases r1
    cases r2
    exact eq_bool (fin po (Bool.beq_eq_decide_eq _ _).symm)
  · obtain rfl := vr_bl vx; obtain rfl := vr_bl vy
    cases r1
    cases r2
    exact ne_bool (fin po (congrArg not (Bool.beq_eq_decide_eq _ _).symm))
  · split at po
    · rename_i b eb
      unfold eqD at eb
      split at eb
      · rename_i d e hd he
        split at eb
        · rename_i hs
          rw [Bool.and_eq_true] at hs
          cases eb
          obtain ⟨as, q1, _⟩ := reads_of hK I rl.hr hd vx r1
          obtain ⟨bs, q2, _⟩ := reads_of hK I rl.hr he vy r2
          exact SeqAt.compareEq_shaped q1 q2 hs.1 hs.2 hu2 (fin po rfl)
        · cases eb
      · cases eb
    · exact po.elim
  · split at po
    · rename_i b eb
      unfold eqD at eb
      split at eb
      · rename_i d e hd he
        split at eb
        · rename_i hs
          rw [Bool.and_eq_true] at hs
          cases eb
          obtain ⟨as, q1, _⟩ := reads_of hK I rl.hr hd vx r1
          obtain ⟨bs, q2, _⟩ := reads_of hK I rl.hr he vy r2
          exact SeqAt.compareNe_shaped q1 q2 hs.1 hs.2 hu2 (fin po rfl)
        · cases eb
      · cases eb
    · exact po.elim
  · obtain ⟨c, po⟩ := po.if_
    rw [Bool.and_eq_true] at c
    obtain ⟨p, vs, rfl, st, q⟩ := vr_tup vy
    refine op_in_seq pins s σ' H _ _ v u Q I r1 r2 ⟨p, vs, rfl, .inr (ofK hK st), (flat_eq vx c.1).1, flat_all q c.2, ?_⟩
    rw [if_neg Bool.false_ne_true, flat_any vx c.1 q c.2]
    exact po.ok' rl.hr _ rfl
  · obtain ⟨c, po⟩ := po.if_
    rw [Bool.and_eq_true] at c
    obtain ⟨p, vs, rfl, st, q⟩ := vr_tup vy
    refine op_notIn_seq pins s σ' H _ _ v u Q I r1 r2 ⟨p, vs, rfl, .inr (ofK hK st), (flat_eq vx c.1).1, flat_all q c.2, ?_⟩
    rw [if_pos rfl, flat_any vx c.1 q c.2]
    exact po.ok' rl.hr _ rfl
  · exact po.elim
end EV
set_option linter.all false
set_option maxRecDepth 100000
set_option maxHeartbeats 1000000
/-! Ev5: subscripts, slices, truth, built-in functions, by values. -/
namespace EV
open PySem PySem.Spec PyProof.Rows L2

theorem VRs.atI {Γ φ H W} {xs : List PV} {vs : List V} {i : Int} {x : PV} (q : VRs Γ φ H W xs vs) (e : atI xs i = some x) : ∃ v, L2.atI vs i = some v ∧ VR Γ φ H W x v := by
  unfold L2.atI at e ⊢
  rw [q.len]
  cases h : ixN xs.length i with
  | none => rw [h] at e; cases e
  | some j =>
    rw [h] at e
    exact q.get e
theorem VRs.cut {Γ φ H W} {xs : List PV} {vs : List V} (q : VRs Γ φ H W xs vs) (lo hi : Option Int) : VRs Γ φ H W (cutP xs lo hi) (cutV vs lo hi) := by
  unfold cutP cutV
  rw [q.len]
  exact (q.drop _).take _
theorem ix_V {C : Ct} (hK : C.X.K = C.Γ.K) : IxR C.X (rV C idxV) := by
  intro e1 e2 pins s σ' H V1 V2 v u Q I r1 r2 hh hs
  obtain ⟨σ, φ, ρ, h, x, y, rl, vx, vy, po⟩ := hh
  unfold idxV at po
  split at po
  · obtain ⟨p, vs, rfl, st, q⟩ := vr_tup vx
    obtain rfl := vr_int vy
    split at po
    · rename_i w e
      obtain ⟨z, e1, e2⟩ := q.atI e
      exact ix_tup _ _ pins s σ' H _ _ v u Q I r1 r2 ⟨p, vs, _, z, rfl, rfl, ofK hK st, e1, po.ok' rl.hr _ e2⟩ hs
    · exact po.elim
  · obtain rfl := vr_int vy
    split at po
    · rename_i xs e
      obtain ⟨a, vs, rfl, sl, q⟩ := rl.hr.getL e vx
      split at po
      · rename_i w e'
        obtain ⟨z, e1, e2⟩ := q.atI e'
        exact ix_list _ _ pins s σ' H _ _ v u Q I r1 r2 ⟨a, vs, _, z, rfl, rfl, ofKL hK sl, e1, po.ok' rl.hr _ e2⟩ hs
      · exact po.elim
    · exact po.elim
  · exact po.elim
/-- a slice by the evaluator's values -/
def rSV (C : Ct) : V → Option Int → Option Int → Hp → VK → Prop := fun V1 lo hi H Q => ∃ σ φ ρ h x, Rl C φ h ρ σ H ∧ VR C.Γ φ H (C.W σ H) x V1 ∧ Po C φ σ H (slcV x lo hi h) fun v φ' _ H' => ∀ V, VR C.Γ φ' H' (C.W σ H') v V → Q V H'
theorem sl_V {C : Ct} (hK : C.X.K = C.Γ.K) : SlR C.X (rSV C) := by
  intro pins s σ' H V1 v vl vu lo hi sl Q I rx hs pl pu hh
  obtain ⟨σ, φ, ρ, h, x, rl, vx, po⟩ := hh
  unfold slcV at po
  split at po
  · obtain ⟨p, vs, rfl, st, q⟩ := vr_tup vx
    refine sl_tupA pins s σ' H _ v vl vu lo hi sl Q I rx hs pl pu ⟨p, vs, rfl, ofK hK st, fun e => ?_, fun _ t nt => new_tup rl.hr (q.cut lo hi) nt po⟩
    refine po.ok' rl.hr _ ?_
    simp only [VR]
    refine ⟨p, vs, rfl, st, ?_⟩
    have c := q.cut lo hi
    have ev : cutV vs lo hi = vs := by
      unfold cutV
      rw [e.1, e.2]
      simp
    rw [ev] at c
    exact c
  · split at po
    · rename_i xs e
      obtain ⟨a, vs, rfl, sq, q⟩ := rl.hr.getL e vx
      exact sl_list pins s σ' H _ v vl vu lo hi sl Q I rx hs pl pu ⟨a, vs, rfl, ofKL hK sq, fun p n => po.newL rl.hr (q.cut lo hi) n _ (ref_add rl.hr.len)⟩
    · exact po.elim
  · exact po.elim
theorem isEmpty_VR {Γ φ H W} {xs : List PV} {vs : List V} (q : VRs Γ φ H W xs vs) : vs.isEmpty = xs.isEmpty := by
  have := q.len
  cases vs <;> cases xs <;> first | rfl | (simp at this)
/-- a value's truth -/
theorem tru_V {Γ : Gm} {K : PySem.W.Frag} (hK : K = Γ.K) {φ H W h x V k h'} (hr : HR Γ φ H W h) (v : VR Γ φ H W x V) (e : truV x h = .ok k h') : TruV K V H k ∧ h' = h := by
  subst hK
  unfold truV at e
  split at e
  · obtain rfl := vr_non v
    cases e
    exact ⟨rfl, rfl⟩
  · obtain rfl := vr_bl v
    cases e
    exact ⟨rfl, rfl⟩
  · obtain rfl := vr_int v
    cases e
    exact ⟨rfl, rfl⟩
  · obtain ⟨p, vs, rfl, st, q⟩ := vr_tup v
    cases e
    exact ⟨.inr (.inl ⟨vs, st, by rw [isEmpty_VR q]⟩), rfl⟩
  · split at e
    · rename_i xs e1
      obtain ⟨a, vs, rfl, sq, q⟩ := hr.getL e1 v
      cases e
      exact ⟨.inl ⟨vs, sq, by rw [isEmpty_VR q]⟩, rfl⟩
    · cases e
  · cases e
theorem truV_ok {x : PV} {h : Hh} : (∃ k, truV x h = .ok k h) ∨ truV x h = .err := by
  unfold truV
  split
  · exact .inl ⟨_, rfl⟩
  · exact .inl ⟨_, rfl⟩
  · exact .inl ⟨_, rfl⟩
  · exact .inl ⟨_, rfl⟩
  · split
    · exact .inl ⟨_, rfl⟩
    · exact .inr rfl
  · exact .inr rfl
/-- a built-in by the evaluator's values -/
def rC (C : Ct) (f : List PV → Hh → Rz PV) : List V → Hp → VK → Prop := fun Vs H Q => ∃ σ φ ρ h xs, Rl C φ h ρ σ H ∧ VRs C.Γ φ H (C.W σ H) xs Vs ∧ Po C φ σ H (f xs h) fun v φ' _ H' => ∀ V, VR C.Γ φ' H' (C.W σ H') v V → Q V H'
theorem vrs1 {Γ φ H W x Vs} (q : VRs Γ φ H W [x] Vs) : ∃ v, Vs = [v] ∧ VR Γ φ H W x v := by
  obtain ⟨v, r, rfl, h, e⟩ := q
  have e' : r = [] := e
  rw [e']
  exact ⟨v, rfl, h⟩
theorem vrs2 {Γ φ H W x y Vs} (q : VRs Γ φ H W [x, y] Vs) : ∃ v u, Vs = [v, u] ∧ VR Γ φ H W x v ∧ VR Γ φ H W y u := by
  obtain ⟨v, r, rfl, h, e⟩ := q
  obtain ⟨u, rfl, h'⟩ := vrs1 e
  exact ⟨v, u, rfl, h, h'⟩
theorem intsP_of {Γ φ H W} : ∀ {xs vs l}, VRs Γ φ H W xs vs → intsP xs = some l → vs = l.map V.int
  | [], vs, l, q, e => by
    have ev : vs = [] := q
    cases e
    exact ev
  | x :: xs, vs, l, q, e => by
    obtain ⟨v, r, rfl, h, q'⟩ := q
    unfold intsP at e
    split at e
    · cases ‹_ :: _ = []›
    · rename_i i r' e1
      cases e1
      split at e
      · rename_i l' e2
        cases e
        obtain rfl := vr_int h
        rw [intsP_of q' e2]
        rfl
      · cases e
    · cases e
theorem blsP_of {Γ φ H W} : ∀ {xs vs l}, VRs Γ φ H W xs vs → blsP xs = some l → vs = l.map V.bl
  | [], vs, l, q, e => by
    have ev : vs = [] := q
    cases e
    exact ev
  | x :: xs, vs, l, q, e => by
    obtain ⟨v, r, rfl, h, q'⟩ := q
    unfold blsP at e
    split at e
    · cases ‹_ :: _ = []›
    · rename_i i r' e1
      cases e1
      split at e
      · rename_i l' e2
        cases e
        obtain rfl := vr_bl h
        rw [blsP_of q' e2]
        rfl
      · cases e
    · cases e
def BI.val : BI → Option Value
  | .len => some (.builtin "len")
  | .int => some (.type "int")
  | .abs => some (.builtin "abs")
  | .sum => some (.builtin "sum")
  | .all => some (.builtin "all")
  | .any => some (.builtin "any")
  | .list => some (.type "list")
  | .tuple => some (.type "tuple")
  | .max2 => some (.builtin "max")
  | .min2 => some (.builtin "min")
  | .repr => some (.builtin "repr")
  | _ => none
def BI.str : BI → Str
  | .len => "len"
  | .int => "int"
  | .abs => "abs"
  | .sum => "sum"
  | .all => "all"
  | .any => "any"
  | .list => "list"
  | .tuple => "tuple"
  | .max2 => "max"
  | .min2 => "min"
  | .repr => "repr"
  | .lrng => "list"
  | .bitl => "bit_length"
theorem vals1' {x : V} {us : List Value} (r : Vals [x] us) : ∃ u, us = [u] ∧ RelV x u := Vals.one r
theorem po_arg1 {C : Ct} {φ σ H} {f : PV → Rz PV} {xs : List PV} {k} (po : Po C φ σ H (arg1 f xs) k) : ∃ x, xs = [x] ∧ Po C φ σ H (f x) k := by
  match xs, po with
  | [x], po => exact ⟨x, rfl, po⟩
  | [], po => exact po.elim
  | _ :: _ :: _, po => exact po.elim
theorem po_arg2 {C : Ct} {φ σ H} {f : PV → PV → Rz PV} {xs : List PV} {k} (po : Po C φ σ H (arg2 f xs) k) : ∃ x y, xs = [x, y] ∧ Po C φ σ H (f x y) k := by
  match xs, po with
  | [x, y], po => exact ⟨x, y, rfl, po⟩
  | [], po => exact po.elim
  | [_], po => exact po.elim
  | _ :: _ :: _ :: _, po => exact po.elim
theorem lstV_of {Γ φ H W h} (hr : HR Γ φ H W h) {x : PV} {xs V} (e : lstV h x = some xs) (v : VR Γ φ H W x V) : ∃ a vs, V = .ref a ∧ SqL Γ.K H a vs ∧ VRs Γ φ H W xs vs := by
  cases x with
  | ref n => exact hr.getL e v
  | _ => cases e
/-- a list or a tuple: its items -/
theorem seq_of {C : Ct} {φ σ H h V k} {x : PV} {f : List PV → Rz PV} {r : Rz PV} (e : r = match x with
    | .tup xs => f xs
    | .ref n => match getL h n with
      | some xs => f xs
      | none => .err
    | _ => .err) (hr : HR C.Γ φ H (C.W σ H) h) (v : VR C.Γ φ H (C.W σ H) x V) (po : Po C φ σ H r k) : ∃ a vs xs, V = .ref a ∧ ((SqL C.Γ.K H a vs) ∨ (SqT C.Γ.K H a vs ∧ x = .tup xs)) ∧ VRs C.Γ φ H (C.W σ H) xs vs ∧ Po C φ σ H (f xs) k := by
  subst e
  split at po
  · obtain ⟨p, vs, rfl, st, q⟩ := vr_tup v
    exact ⟨p, vs, _, rfl, .inr ⟨st, rfl⟩, q, po⟩
  · split at po
    · rename_i xs e
      obtain ⟨a, vs, rfl, sq, q⟩ := hr.getL e v
      exact ⟨a, vs, xs, rfl, .inl sq, q, po⟩
    · exact po.elim
  · exact po.elim
theorem dictOk_of {d : PyData} (h : dictOk d = true) : d.hasDict = true → ∃ kvs, d = .dict kvs := by
  intro e
  cases d with
  | dict kvs => exact ⟨kvs, rfl⟩
  | _ =>
    exfalso
    have h' := h
    simp only [dictOk, e] at h'
    cases h'
theorem call_V {C : Ct} (hK : C.X.K = C.Γ.K) (hc : C.X.calm = true) (hu : C.X.A.units + 65 < cLine) (hg : C.X.A.guards = some []) (b : BI) (f : Value) (hb : b.val = some f) : CallR C.X f (rC C (bltV b)) := by
  intro pins s σ' H Vs us Q I r hh
  obtain ⟨σ, φ, ρ, h, xs, rl, q, po⟩ := hh
  cases b with
  | len =>
    cases hb
    replace po := po_arg1 (f := fun x => lenV x h) po
    obtain ⟨x, rfl, po⟩ := po
    obtain ⟨v, rfl, vx⟩ := vrs1 q
    obtain ⟨a, vs, ys, rfl, sq, q', po⟩ := seq_of (f := fun xs => .ok (.int xs.length) h) rfl rl.hr vx po
    refine call_len_seq pins s σ' H _ us Q I r ⟨a, vs, rfl, sq.imp (ofKL hK) fun z => ofK hK z.1, ?_⟩
    rw [q'.len]
    exact po.ok' rl.hr _ rfl
  | int =>
    cases hb
    replace po := po_arg1 (f := fun x => intV x h) po
    obtain ⟨x, rfl, po⟩ := po
    obtain ⟨v, rfl, vx⟩ := vrs1 q
    unfold intV at po
    split at po
    · obtain rfl := vr_int vx
      exact call_int1 pins s σ' H _ us Q I r (.inl ⟨_, rfl, po.ok' rl.hr _ rfl⟩)
    · rename_i k
      obtain rfl := vr_bl vx
      refine call_int1 pins s σ' H _ us Q I r (.inr ⟨k, rfl, ?_⟩)
      have z := po.ok' rl.hr (.int (b2 k)) rfl
      cases k <;> exact z
    · exact po.elim
  | abs =>
    cases hb
    replace po := po_arg1 (f := fun x => absV x h) po
    obtain ⟨x, rfl, po⟩ := po
    obtain ⟨v, rfl, vx⟩ := vrs1 q
    unfold absV at po
    split at po
    · obtain rfl := vr_int vx
      exact call_abs pins s σ' H _ us Q I r ⟨_, rfl, po.ok' rl.hr _ rfl⟩
    · exact po.elim
  | max2 =>
    cases hb
    replace po := po_arg2 (f := fun x y => maxV x y h) po
    obtain ⟨x, y, rfl, po⟩ := po
    obtain ⟨v, u, rfl, vx, vy⟩ := vrs2 q
    unfold maxV at po
    split at po
    · obtain rfl := vr_int vx
      obtain rfl := vr_int vy
      exact call_max2 hc pins s σ' H _ us Q I r ⟨_, _, rfl, po.ok' rl.hr _ rfl⟩
    · exact po.elim
  | min2 =>
    cases hb
    replace po := po_arg2 (f := fun x y => minV x y h) po
    obtain ⟨x, y, rfl, po⟩ := po
    obtain ⟨v, u, rfl, vx, vy⟩ := vrs2 q
    unfold minV at po
    split at po
    · obtain rfl := vr_int vx
      obtain rfl := vr_int vy
      exact call_min2 hc pins s σ' H _ us Q I r ⟨_, _, rfl, po.ok' rl.hr _ rfl⟩
    · exact po.elim
  | sum =>
    cases hb
    replace po := po_arg1 (f := fun x => sumV x h) po
    obtain ⟨x, rfl, po⟩ := po
    obtain ⟨v, rfl, vx⟩ := vrs1 q
    unfold sumV at po
    split at po
    · rename_i l e
      obtain ⟨ys, e1, e2⟩ := Option.bind_eq_some_iff.mp e
      obtain ⟨a, vs, rfl, sq, q'⟩ := lstV_of rl.hr e1 vx
      obtain rfl := intsP_of q' e2
      exact cr_sum hc pins s σ' H _ us Q I r ⟨a, l, rfl, ofKL hK sq, po.ok' rl.hr _ rfl⟩
    · exact po.elim
  | all =>
    cases hb
    replace po := po_arg1 (f := fun x => allV x h) po
    obtain ⟨x, rfl, po⟩ := po
    obtain ⟨v, rfl, vx⟩ := vrs1 q
    unfold allV at po
    split at po
    · rename_i l e
      obtain ⟨ys, e1, e2⟩ := Option.bind_eq_some_iff.mp e
      obtain ⟨a, vs, rfl, sq, q'⟩ := lstV_of rl.hr e1 vx
      obtain rfl := blsP_of q' e2
      exact cr_all hc pins s σ' H _ us Q I r ⟨a, l, rfl, ofKL hK sq, po.ok' rl.hr _ rfl⟩
    · exact po.elim
  | any =>
    cases hb
    replace po := po_arg1 (f := fun x => anyV x h) po
    obtain ⟨x, rfl, po⟩ := po
    obtain ⟨v, rfl, vx⟩ := vrs1 q
    unfold anyV at po
    split at po
    · rename_i l e
      obtain ⟨ys, e1, e2⟩ := Option.bind_eq_some_iff.mp e
      obtain ⟨a, vs, rfl, sq, q'⟩ := lstV_of rl.hr e1 vx
      obtain rfl := blsP_of q' e2
      exact cr_any hc pins s σ' H _ us Q I r ⟨a, l, rfl, ofKL hK sq, po.ok' rl.hr _ rfl⟩
    · exact po.elim
  | list =>
    cases hb
    replace po := po_arg1 (f := fun x => mkLV x h) po
    obtain ⟨x, rfl, po⟩ := po
    obtain ⟨v, rfl, vx⟩ := vrs1 q
    obtain ⟨a, vs, ys, rfl, sq, q', po⟩ := seq_of (f := fun xs => newL xs h) rfl rl.hr vx po
    exact call_list_of pins s σ' H _ us Q I r ⟨a, vs, rfl, sq.imp (ofKL hK) fun z => ofK hK z.1, fun l n => po.newL rl.hr q' n _ (ref_add rl.hr.len)⟩
  | tuple =>
    cases hb
    replace po := po_arg1 (f := fun x => mkTV x h) po
    obtain ⟨x, rfl, po⟩ := po
    obtain ⟨v, rfl, vx⟩ := vrs1 q
    obtain ⟨a, vs, ys, rfl, sq, q', po⟩ := seq_of (f := fun xs => .ok (.tup xs) h) rfl rl.hr vx po
    refine call_tuple_of pins s σ' H _ us Q I r ⟨a, vs, rfl, ?_⟩
    rcases sq with sq | ⟨sq, rfl⟩
    · exact .inl ⟨ofKL hK sq, fun l n => new_tup rl.hr q' n po⟩
    · refine .inr ⟨ofK hK sq, po.ok' rl.hr _ ?_⟩
      simp only [VR]
      exact ⟨a, vs, rfl, sq, q'⟩
  | repr =>
    cases hb
    replace po := po_arg1 (f := fun x => reprV x h) po
    obtain ⟨x, rfl, po⟩ := po
    obtain ⟨v, rfl, vx⟩ := vrs1 q
    unfold reprV at po
    split at po
    · rename_i d e
      obtain ⟨c, po⟩ := po.if_
      unfold showOk at c
      rw [Bool.and_eq_true, Bool.and_eq_true, Bool.and_eq_true] at c
      obtain ⟨⟨⟨c0, c1⟩, c2⟩, c3⟩ := c
      have c2 := of_decide_eq_true c2
      have c3 := of_decide_eq_true c3
      obtain ⟨u, rfl, ru⟩ := vals1' r
      obtain ⟨as, rd, ns⟩ := reads_of hK I rl.hr e vx ru
      have fin : ∀ t tk, EP C.X pins σ' Q (.str d.shown t) { s with toks := tk } := fun t tk => ⟨.str d.shown, H, I.tok tk, ⟨t, rfl⟩, po.ok' rl.hr _ rfl⟩
      cases rd with
      | none => exact PySem.P.repr_of_none (fin _ _)
      | bool k => exact PySem.P.repr_of_bool (fin _ _)
      | int i t => exact PySem.P.repr_of_int (of_decide_eq_true c1) (fin _ _)
      | str z t => exact PySem.P.repr_of_str (fin _ _) c2
      | list h1 h2 h3 h4 =>
        exact repr_of_reads' (.list h1 h2 h3 h4) c1 (fun z => let ⟨_, e⟩ := dictOk_of c0 z; nomatch e) hg (by omega) (fun _ _ z => z) (fun h' t tk k => ⟨.str _, H, I.kept k, ⟨t, rfl⟩, po.ok' rl.hr _ rfl⟩) c2
      | tuple h1 h2 h3 h4 =>
        exact repr_of_reads' (.tuple h1 h2 h3 h4) c1 (fun z => let ⟨_, e⟩ := dictOk_of c0 z; nomatch e) hg (by omega) (fun _ _ z => z) (fun h' t tk k => ⟨.str _, H, I.kept k, ⟨t, rfl⟩, po.ok' rl.hr _ rfl⟩) c2
      | dict h1 h2 h3 h4 h5 =>
        exact repr_of_reads' (.dict h1 h2 h3 h4 h5) c1 (fun _ => ns _ rfl) hg (by omega) (fun _ _ z => z) (fun h' t tk k => ⟨.str _, H, I.kept k, ⟨t, rfl⟩, po.ok' rl.hr _ rfl⟩) c2
    · exact po.elim
  | lrng => cases hb
  | bitl => cases hb
end EV
set_option linter.all false
set_option maxRecDepth 100000
set_option maxHeartbeats 1000000
/-! Ev6: expressions, case by case. -/
namespace EV
open PySem PySem.Spec PyProof.Rows L2

section
variable {C : Ct}
/-- a value at once -/
theorem Po.val {C : Ct} {φ σ H} {v : PV} {h} {V : L2.V} {Q : L2.V → Hp → Prop} (p : Po C φ σ H (.ok v h) fun v φ' _ H' => ∀ V, VR C.Γ φ' H' (C.W σ H') v V → Q V H') (hr : HR C.Γ φ H (C.W σ H) h) (r : VR C.Γ φ H (C.W σ H) v V) : Q V H := p.ok' hr V r
theorem se_var {i : Nat} {x : Str} {pos : Pos} (hN : C.X.N[i]? = some x) (hv : Vis C.X.env.scope x) (hd : (x == ("__debug__" : Str)) = false) (hcd : (x == ("__classdict__" : Str)) = false) :
    PE C.X (.Name x pos) (tE C fun ρ h => match slot ρ i with | some v => .ok v h | none => .err) := by
  refine (pe_var hN hv hd hcd).imp fun σ H Q ⟨φ, ρ, h, rl, po⟩ => ?_
  dsimp only at po
  cases e : slot ρ i with
  | none => rw [e] at po; exact po.elim
  | some v =>
    rw [e] at po
    obtain ⟨V, e1, e2⟩ := rl.re.get i v (slot_some e)
    exact ⟨V, e1, po.val rl.hr e2⟩
theorem se_int {i : Int} {j pos} : PE C.X (.Constant (.int i) j pos) (tE C fun _ h => .ok (.int i) h) := pe_int.imp fun σ H Q ⟨φ, ρ, h, rl, po⟩ => po.val (V := .int i) rl.hr rfl
theorem se_bl {i : Bool} {j pos} : PE C.X (.Constant (.bool i) j pos) (tE C fun _ h => .ok (.bl i) h) := pe_bl.imp fun σ H Q ⟨φ, ρ, h, rl, po⟩ => po.val (V := .bl i) rl.hr rfl
theorem se_non {j pos} : PE C.X (.Constant .none j pos) (tE C fun _ h => .ok .non h) := pe_non.imp fun σ H Q ⟨φ, ρ, h, rl, po⟩ => po.val (V := .non) rl.hr rfl
theorem se_str {i : Str} {j pos} : PE C.X (.Constant (.str i) j pos) (tE C fun _ h => .ok (.str i) h) := pe_str.imp fun σ H Q ⟨φ, ρ, h, rl, po⟩ => po.val (V := .str i) rl.hr rfl
theorem se_glb {x : Str} {pos : Pos} {u : Value} {V : V} {v : PV} (hg : Gl C.X x) (hm : C.X.mg x = some u) (r : RelV V u) (hv : ∀ φ H W, VR C.Γ φ H W v V) (hd : (x == ("__debug__" : Str)) = false) {o : Option PV} (ho : o = some v) :
    PE C.X (.Name x pos) (tE C fun _ h => match o with | some v => .ok v h | none => .err) := by
  subst ho
  exact (pe_glob hg hm r hd).imp fun σ H Q ⟨φ, ρ, h, rl, po⟩ => po.val rl.hr (hv _ _ _)

/-! ### arguments, displays -/
theorem sa_nil : PA C.X [] (tA C fun _ h => .ok [] h) := pa_nil.imp fun σ H Q ⟨φ, ρ, h, rl, po⟩ => po.ok' rl.hr [] rfl
def isStar : Expr → Bool
  | .Starred _ _ => true
  | _ => false
theorem starEach_cons {e : Expr} {es : List Expr} {env : Env} (h : isStar e = false) : starEach (e :: es) env = (false, eval e env) :: starEach es env := by
  cases e <;> first | rfl | cases h
theorem sa_cons {e : Expr} {es : List Expr} {f g} (hs : isStar e = false) (ha : PE C.X e (tE C f)) (hr : PA C.X es (tA C g)) :
    PA C.X (e :: es) (tA C fun ρ h => (f ρ h).bnd fun x h => (g ρ h).bnd fun xs h => .ok (x :: xs) h) := by
  refine (pa_cons ha hr (starEach_cons hs)).imp fun σ H Q ⟨φ, ρ, h, rl, po⟩ => ?_
  refine tE.mk rl (po.bnd.imp fun x φ1 h1 H1 s1 hr1 p1 V v rl1 => ?_)
  refine tA.mk rl1 (p1.bnd.imp fun xs φ2 h2 H2 s2 hr2 p2 Vs vs rl2 => ?_)
  exact p2.ok' hr2 _ ⟨V, Vs, rfl, VR.mono s2 (Ct.wm s2) _ _ v, vs⟩
theorem se_tup {es : List Expr} {k : Nat} {pos : Pos} {f} (ha : PA C.X es (tA C f)) : PE C.X (.Tuple es k pos) (tE C fun ρ h => (f ρ h).bnd fun vs h => if vs.length ≤ sizeLine then .ok (.tup vs) h else .err) := by
  refine (pe_tup ha).imp fun σ H Q ⟨φ, ρ, h, rl, po⟩ => ?_
  refine tA.mk rl (po.bnd.imp fun xs φ1 h1 H1 s1 hr1 p1 Vs vs rl1 => ?_)
  obtain ⟨c, p1⟩ := p1.if_
  exact ⟨by rw [vs.len]; exact c, fun p n => new_tup hr1 vs n p1⟩
theorem se_lst {es : List Expr} {pos : Pos} {f} (ha : PA C.X es (tA C f)) : PE C.X (.List es pos) (tE C fun ρ h => (f ρ h).bnd fun vs h => if vs.length ≤ sizeLine then newL vs h else .err) := by
  refine (pe_lst ha).imp fun σ H Q ⟨φ, ρ, h, rl, po⟩ => ?_
  refine tA.mk rl (po.bnd.imp fun xs φ1 h1 H1 s1 hr1 p1 Vs vs rl1 => ?_)
  obtain ⟨c, p1⟩ := p1.if_
  exact ⟨by rw [vs.len]; exact c, fun p n => p1.newL hr1 vs n _ (ref_add hr1.len)⟩

/-! ### operators -/
theorem se_bin {a b : Expr} {op : Operator} {pos : Pos} {f g} (hK : C.X.K = C.Γ.K) (ha : PE C.X a (tE C f)) (hb : PE C.X b (tE C g)) :
    PE C.X (.BinOp a op b pos) (tE C fun ρ h => (f ρ h).bnd fun x h => (g ρ h).bnd fun y h => binV op x y h) := by
  refine (pe_op (op_binV hK op) ha hb).imp fun σ H Q ⟨φ, ρ, h, rl, po⟩ => ?_
  refine tE.mk rl (po.bnd.imp fun x φ1 h1 H1 s1 hr1 p1 V v rl1 => ?_)
  refine tE.mk rl1 (p1.bnd.imp fun y φ2 h2 H2 s2 hr2 p2 U u rl2 => ?_)
  exact ⟨σ, φ2, ρ, h2, x, y, rl2, VR.mono s2 (Ct.wm s2) _ _ v, u, p2⟩
theorem se_cmp {a b : Expr} {op : CmpOp} {pos : Pos} {f g} (hK : C.X.K = C.Γ.K) (hu : C.X.A.units + 65 < cLine) (hm : behindInMarks op b = false) (ha : PE C.X a (tE C f)) (hb : PE C.X b (tE C g)) :
    PE C.X (.Compare a [op] [b] pos) (tE C fun ρ h => (f ρ h).bnd fun x h => (g ρ h).bnd fun y h => cmpV op x y h) := by
  refine (pe_cmpR (op_cmpV hK hu op) ha hb hm).imp fun σ H Q ⟨φ, ρ, h, rl, po⟩ => ?_
  refine tE.mk rl (po.bnd.imp fun x φ1 h1 H1 s1 hr1 p1 V v rl1 => ?_)
  refine tE.mk rl1 (p1.bnd.imp fun y φ2 h2 H2 s2 hr2 p2 U u rl2 => ?_)
  exact ⟨σ, φ2, ρ, h2, x, y, rl2, VR.mono s2 (Ct.wm s2) _ _ v, u, p2⟩
/-- a comparison gives a truth -/
theorem cmpV_bl {op x y h} : (∃ k, cmpV op x y h = .ok (.bl k) h) ∨ cmpV op x y h = .err := by
  unfold cmpV
  split <;> first
    | exact .inl ⟨_, rfl⟩
    | exact .inr rfl
    | (split <;> first | exact .inl ⟨_, rfl⟩ | exact .inr rfl)
/-- a test by a value that is a truth -/
theorem truV_bl {k : Bool} {h : Hh} : truV (.bl k) h = .ok k h := rfl
theorem st_cmp {a b : Expr} {op : CmpOp} {pos : Pos} {f g} (hK : C.X.K = C.Γ.K) (hu : C.X.A.units + 65 < cLine) (hm : behindInMarks op b = false) (ha : PE C.X a (tE C f)) (hb : PE C.X b (tE C g)) :
    PT C.X (.Compare a [op] [b] pos) (tT C fun ρ h => ((f ρ h).bnd fun x h => (g ρ h).bnd fun y h => cmpV op x y h).bnd truV) := by
  refine (pt_cmpR (op_cmpV hK hu op) ha hb hm).imp fun σ H Q ⟨φ, ρ, h, rl, po⟩ => ?_
  have e : ((f ρ h).bnd fun x h => (g ρ h).bnd fun y h => cmpV op x y h).bnd truV = (f ρ h).bnd fun x h => (g ρ h).bnd fun y h => (cmpV op x y h).bnd truV := by
    cases f ρ h with
    | ok x h =>
      show ((g ρ h).bnd _).bnd truV = (g ρ h).bnd _
      cases g ρ h <;> rfl
    | _ => rfl
  dsimp only at po
  rw [e] at po
  refine tE.mk rl (po.bnd.imp fun x φ1 h1 H1 s1 hr1 p1 V v rl1 => ?_)
  refine tE.mk rl1 (p1.bnd.imp fun y φ2 h2 H2 s2 hr2 p2 U u rl2 => ?_)
  refine ⟨σ, φ2, ρ, h2, x, y, rl2, VR.mono s2 (Ct.wm s2) _ _ v, u, ?_⟩
  rcases cmpV_bl (op := op) (x := x) (y := y) (h := h2) with ⟨k, e⟩ | e
  · rw [e] at p2 ⊢
    exact fun φ' H' s' hr' V' v' => ⟨k, v', (show Po C φ2 σ H2 (.ok k h2) _ from p2) φ' H' s' hr'⟩
  · rw [e] at p2
    exact p2.elim
theorem se_neg {a : Expr} {pos : Pos} {f} (ha : PE C.X a (tE C f)) : PE C.X (.UnaryOp .USub a pos) (tE C fun ρ h => (f ρ h).bnd fun x h => match x with | .int i => .ok (.int (-i)) h | _ => .err) := by
  refine (pe_un un_neg ha).imp fun σ H Q ⟨φ, ρ, h, rl, po⟩ => ?_
  refine tE.mk rl (po.bnd.imp fun x φ1 h1 H1 s1 hr1 p1 V v rl1 => ?_)
  cases x with
  | int i =>
    obtain rfl := vr_int v
    exact ⟨i, rfl, p1.val (V := .int (-i)) hr1 rfl⟩
  | _ => exact p1.elim
theorem vr_bool {Γ φ H W k V} (v : VR Γ φ H W (.bl k) V) : V = .bl k := v
theorem se_not {a : Expr} {pos : Pos} {f} (ha : PE C.X a (tE C f)) : PE C.X (.UnaryOp .Not a pos) (tE C fun ρ h => (f ρ h).bnd fun x h => match x with | .bl b => .ok (.bl (!b)) h | _ => .err) := by
  refine (pe_not ha).imp fun σ H Q ⟨φ, ρ, h, rl, po⟩ => ?_
  refine tE.mk rl (po.bnd.imp fun x φ1 h1 H1 s1 hr1 p1 V v rl1 => ?_)
  cases x with
  | bl i => exact ⟨i, v, p1.val (V := .bl (!i)) hr1 rfl⟩
  | _ => exact p1.elim
theorem st_not {a : Expr} {pos : Pos} {f} (ha : PT C.X a (tT C f)) : PT C.X (.UnaryOp .Not a pos) (tT C fun ρ h => (f ρ h).bnd fun b h => .ok (!b) h) := by
  refine (pt_not ha).imp fun σ H Q ⟨φ, ρ, h, rl, po⟩ => ?_
  exact tT.mk rl (po.bnd.imp fun x φ1 h1 H1 s1 hr1 p1 rl1 => p1.ok' hr1)
theorem se_and {a b : Expr} {rest : List Expr} {pos : Pos} {f g} (ha : PE C.X a (tE C f)) (hb : PE C.X (.BoolOp .And (b :: rest) pos) (tE C g)) :
    PE C.X (.BoolOp .And (a :: b :: rest) pos) (tE C fun ρ h => (f ρ h).bnd fun x h => match x with | .bl true => g ρ h | .bl false => .ok (.bl false) h | _ => .err) := by
  refine (pe_and ha hb).imp fun σ H Q ⟨φ, ρ, h, rl, po⟩ => ?_
  refine tE.mk rl (po.bnd.imp fun x φ1 h1 H1 s1 hr1 p1 V v rl1 => ?_)
  cases x with
  | bl i =>
    refine ⟨i, v, ?_⟩
    cases i with
    | true => exact iteT ⟨φ1, ρ, h1, rl1, p1⟩
    | false => exact iteF (p1.val (V := .bl false) hr1 rfl)
  | _ => exact p1.elim
theorem se_or {a b : Expr} {rest : List Expr} {pos : Pos} {f g} (ha : PE C.X a (tE C f)) (hb : PE C.X (.BoolOp .Or (b :: rest) pos) (tE C g)) :
    PE C.X (.BoolOp .Or (a :: b :: rest) pos) (tE C fun ρ h => (f ρ h).bnd fun x h => match x with | .bl false => g ρ h | .bl true => .ok (.bl true) h | _ => .err) := by
  refine (pe_or ha hb).imp fun σ H Q ⟨φ, ρ, h, rl, po⟩ => ?_
  refine tE.mk rl (po.bnd.imp fun x φ1 h1 H1 s1 hr1 p1 V v rl1 => ?_)
  cases x with
  | bl i =>
    refine ⟨i, v, ?_⟩
    cases i with
    | false => exact iteF ⟨φ1, ρ, h1, rl1, p1⟩
    | true => exact iteT (p1.val (V := .bl true) hr1 rfl)
  | _ => exact p1.elim
theorem sw_and {a b : Expr} {rest : List Expr} {pos : Pos} {f g} (ha : PT C.X a (tT C f)) (hb : PW C.X (.BoolOp .And (b :: rest) pos) (tT C g)) :
    PW C.X (.BoolOp .And (a :: b :: rest) pos) (tT C fun ρ h => (f ρ h).bnd fun x h => if x = true then g ρ h else .ok false h) := by
  refine (pw_and ha hb).imp fun σ H Q ⟨φ, ρ, h, rl, po⟩ => ?_
  refine tT.mk rl (po.bnd.imp fun x φ1 h1 H1 s1 hr1 p1 rl1 => ?_)
  cases x with
  | true => exact iteT ⟨φ1, ρ, h1, rl1, p1⟩
  | false => exact iteF (p1.ok' hr1)
theorem sw_or {a b : Expr} {rest : List Expr} {pos : Pos} {f g} (ha : PT C.X a (tT C f)) (hb : PW C.X (.BoolOp .Or (b :: rest) pos) (tT C g)) :
    PW C.X (.BoolOp .Or (a :: b :: rest) pos) (tT C fun ρ h => (f ρ h).bnd fun x h => if x = true then .ok true h else g ρ h) := by
  refine (pw_or ha hb).imp fun σ H Q ⟨φ, ρ, h, rl, po⟩ => ?_
  refine tT.mk rl (po.bnd.imp fun x φ1 h1 H1 s1 hr1 p1 rl1 => ?_)
  cases x with
  | false => exact iteF ⟨φ1, ρ, h1, rl1, p1⟩
  | true => exact iteT (p1.ok' hr1)
/-- expressions whose test is their value's truth -/
def plainT : Expr → Bool
  | .Name .. => true
  | .Call .. => true
  | .Subscript .. => true
  | .Attribute .. => true
  | .BinOp .. => true
  | .ListComp .. => true
  | .Constant .. => true
  | _ => false
theorem st_plain {e : Expr} {f} (hK : C.X.K = C.Γ.K) (hp : plainT e = true) (ha : PE C.X e (tE C f)) : PT C.X e (tT C fun ρ h => (f ρ h).bnd truV) := by
  have he : ∀ whole, isTrue e C.X.env whole = (do let v ← whole; standAt e.pos; holding [v] (truthy v)) := by
    cases e <;> first | (intro _; rfl) | cases hp
  refine (pt_truth ha he).imp fun σ H Q ⟨φ, ρ, h, rl, po⟩ => ?_
  refine tE.mk rl (po.bnd.imp fun x φ1 h1 H1 s1 hr1 p1 V v rl1 => ?_)
  rcases truV_ok (x := x) (h := h1) with ⟨k, e⟩ | e
  · obtain ⟨t, _⟩ := tru_V hK hr1 v e
    rw [e] at p1
    exact ⟨k, t, p1.ok' hr1⟩
  · rw [e] at p1
    exact p1.elim
theorem se_ife {c a b : Expr} {pos : Pos} {t f g} (hc : PT C.X c (tT C t)) (ha : PE C.X a (tE C f)) (hb : PE C.X b (tE C g)) :
    PE C.X (.IfExp c a b pos) (tE C fun ρ h => (t ρ h).bnd fun k h => if k = true then f ρ h else g ρ h) := by
  refine (pe_ifExp hc ha hb).imp fun σ H Q ⟨φ, ρ, h, rl, po⟩ => ?_
  refine tT.mk rl (po.bnd.imp fun x φ1 h1 H1 s1 hr1 p1 rl1 => ?_)
  cases x with
  | true => exact iteT ⟨φ1, ρ, h1, rl1, p1⟩
  | false => exact iteF ⟨φ1, ρ, h1, rl1, p1⟩
theorem se_chn {a b c : Expr} {op op' : CmpOp} {pos : Pos} {f g k} (hK : C.X.K = C.Γ.K) (hu : C.X.A.units + 65 < cLine) (hm : lastMarks [op, op'] [b, c] = false) (ha : PE C.X a (tE C f)) (hb : PE C.X b (tE C g)) (hc : PE C.X c (tE C k)) :
    PE C.X (.Compare a [op, op'] [b, c] pos) (tE C fun ρ h => (f ρ h).bnd fun x h => (g ρ h).bnd fun y h => (cmpV op x y h).bnd fun b h => match b with
      | .bl true => (k ρ h).bnd fun z h => cmpV op' y z h
      | .bl false => .ok (.bl false) h
      | _ => .err) := by
  refine (pe_chain (op_cmpV hK hu op) (op_cmpV hK hu op') ha hb hc hm).imp fun σ H Q ⟨φ, ρ, h, rl, po⟩ => ?_
  refine tE.mk rl (po.bnd.imp fun x φ1 h1 H1 s1 hr1 p1 V v rl1 => ?_)
  refine tE.mk rl1 (p1.bnd.imp fun y φ2 h2 H2 s2 hr2 p2 U u rl2 => ?_)
  refine ⟨σ, φ2, ρ, h2, x, y, rl2, VR.mono s2 (Ct.wm s2) _ _ v, u, ?_⟩
  rcases cmpV_bl (op := op) (x := x) (y := y) (h := h2) with ⟨j, e⟩ | e
  · rw [e] at p2 ⊢
    intro φ3 H3 s3 hr3 V' v'
    refine ⟨j, v', ?_⟩
    have rl3 := rl2.on s3 hr3
    cases j with
    | true =>
      replace p2 : Po C φ2 σ H2 ((k ρ h2).bnd fun z h => cmpV op' y z h) (fun v φ' _ H' => ∀ V, VR C.Γ φ' H' (C.W σ H') v V → Q V H') := p2
      refine iteT (tE.mk rl3 ((Po.step p2 s3).bnd.imp fun z φ4 h4 H4 s4 hr4 p4 Z zr rl4 => ?_))
      exact ⟨σ, φ4, ρ, h4, y, z, rl4, VR.mono (s3.trans s4) (Ct.wm (s3.trans s4)) _ _ u, zr, p4⟩
    | false => exact iteF ((Po.step p2 s3).val (V := .bl false) hr3 rfl)
  · rw [e] at p2
    exact p2.elim
theorem plainIx {b : Expr} (h : (match b with | .Slice .. => false | _ => true) = true) : PlainIx b := by
  intro o i
  cases b <;> first | rfl | cases h
theorem se_idx {a b : Expr} {pos : Pos} {f g} (hK : C.X.K = C.Γ.K) (hs : (match b with | .Slice .. => false | _ => true) = true) (ha : PE C.X a (tE C f)) (hb : PE C.X b (tE C g)) :
    PE C.X (.Subscript a b pos) (tE C fun ρ h => (f ρ h).bnd fun x h => (g ρ h).bnd fun y h => idxV x y h) := by
  refine (pe_ix (ix_V hK) ha hb (plainIx hs)).imp fun σ H Q ⟨φ, ρ, h, rl, po⟩ => ?_
  refine tE.mk rl (po.bnd.imp fun x φ1 h1 H1 s1 hr1 p1 V v rl1 => ?_)
  refine tE.mk rl1 (p1.bnd.imp fun y φ2 h2 H2 s2 hr2 p2 U u rl2 => ?_)
  exact ⟨σ, φ2, ρ, h2, x, y, rl2, VR.mono s2 (Ct.wm s2) _ _ v, u, p2⟩
theorem _root_.L2.PO.imp {X : Cx} {e : Option Expr} {t t' : TO} (h : PO X e t) (i : ∀ σ H Q, t' σ H Q → t σ H Q) : PO X e t' := ⟨fun pins s σ H Q I q => h.run pins s σ H Q I (i σ H Q q)⟩
theorem so_none : PO C.X none (tO C fun _ h => .ok none h) := po_none.imp fun σ H Q ⟨φ, ρ, h, rl, po⟩ => po.ok' rl.hr
theorem so_some {e : Expr} {f} (ha : PE C.X e (tE C f)) : PO C.X (some e) (tO C fun ρ h => (f ρ h).bnd fun v h => match v with | .int i => .ok (some i) h | _ => .err) := by
  refine (po_some ha).imp fun σ H Q ⟨φ, ρ, h, rl, po⟩ => ?_
  refine tE.mk rl (po.bnd.imp fun x φ1 h1 H1 s1 hr1 p1 V v rl1 => ?_)
  cases x with
  | int i => exact ⟨i, v, p1.ok' hr1⟩
  | _ => exact p1.elim
theorem se_slc {a : Expr} {lo hi : Option Expr} {p2 pos : Pos} {f g k} (hK : C.X.K = C.Γ.K) (ha : PE C.X a (tE C f)) (hl : PO C.X lo (tO C g)) (hh : PO C.X hi (tO C k)) :
    PE C.X (.Subscript a (.Slice lo hi none p2) pos) (tE C fun ρ h => (f ρ h).bnd fun x h => (g ρ h).bnd fun l h => (k ρ h).bnd fun u h => slcV x l u h) := by
  refine (pe_slice (sl_V hK) ha hl hh).imp fun σ H Q ⟨φ, ρ, h, rl, po⟩ => ?_
  refine tE.mk rl (po.bnd.imp fun x φ1 h1 H1 s1 hr1 p1 V v rl1 => ?_)
  refine tO.mk rl1 (p1.bnd.imp fun l φ2 h2 H2 s2 hr2 p2 rl2 => ?_)
  refine tO.mk rl2 (p2.bnd.imp fun u φ3 h3 H3 s3 hr3 p3 rl3 => ?_)
  exact ⟨σ, φ3, ρ, h3, x, rl3, VR.mono (s2.trans s3) (Ct.wm (s2.trans s3)) _ _ v, p3⟩
/-- a built-in called by its name -/
theorem se_blt {b : BI} {f : Value} {es : List Expr} {e : Expr} {p pos : Pos} {g} (hK : C.X.K = C.Γ.K) (hc : C.X.calm = true) (hu : C.X.A.units + 65 < cLine) (hgd : C.X.A.guards = some []) (hb : b.val = some f)
    (hg : Gl C.X b.str) (hm : C.X.mg b.str = none) (hs : isStar e = false) (hpl : es.all (fun e => !isStar e) = true) (ha : PA C.X (e :: es) (tA C g)) :
    PE C.X (.Call (.Name b.str p) (e :: es) [] pos) (tE C fun ρ h => (g ρ h).bnd fun vs h => bltV b vs h) := by
  have key : ∀ {es : List Expr} {env : Env}, es.all (fun e => !isStar e) = true → (backTo pos (starEach es env)).any (·.1) = false := by
    intro es env
    induction es with
    | nil => intro _; rfl
    | cons e r ih =>
      intro h
      rw [List.all_cons, Bool.and_eq_true] at h
      have h1 : isStar e = false := by simpa using h.1
      rw [starEach_cons h1]
      show (false || (backTo pos (starEach r env)).any (·.1)) = false
      rw [ih h.2]
      rfl
  have main : ∀ {r : List V → Hp → VK → Prop}, CallR C.X f r → PE C.X (.Call (.Name b.str p) (e :: es) [] pos) (tCB r (tA C g)) := fun {r} hr => by
    cases b <;> cases hb
    case len => exact pe_callB hr hg hm (by decide +kernel) ha (by decide) (by decide) (starEach_cons hs) (key hpl)
    case abs => exact pe_callB hr hg hm (by decide +kernel) ha (by decide) (by decide) (starEach_cons hs) (key hpl)
    case sum => exact pe_callB hr hg hm (by decide +kernel) ha (by decide) (by decide) (starEach_cons hs) (key hpl)
    case all => exact pe_callB hr hg hm (by decide +kernel) ha (by decide) (by decide) (starEach_cons hs) (key hpl)
    case any => exact pe_callB hr hg hm (by decide +kernel) ha (by decide) (by decide) (starEach_cons hs) (key hpl)
    case max2 => exact pe_callB hr hg hm (by decide +kernel) ha (by decide) (by decide) (starEach_cons hs) (key hpl)
    case min2 => exact pe_callB hr hg hm (by decide +kernel) ha (by decide) (by decide) (starEach_cons hs) (key hpl)
    case repr => exact pe_callB hr hg hm (by decide +kernel) ha (by decide) (by decide) (starEach_cons hs) (key hpl)
    case int => exact pe_callTy hr hg hm (by decide +kernel) ha (by decide) (by decide) (starEach_cons hs) (key hpl)
    case list => exact pe_callTy hr hg hm (by decide +kernel) ha (by decide) (by decide) (starEach_cons hs) (key hpl)
    case tuple => exact pe_callTy hr hg hm (by decide +kernel) ha (by decide) (by decide) (starEach_cons hs) (key hpl)
  refine (main (call_V hK hc hu hgd b f hb)).imp fun σ H Q ⟨φ, ρ, h, rl, po⟩ => ?_
  refine tA.mk rl (po.bnd.imp fun xs φ1 h1 H1 s1 hr1 p1 Vs vs rl1 => ?_)
  exact ⟨σ, φ1, ρ, h1, xs, rl1, vs, p1⟩
theorem se_bits {o : Expr} {apos pos : Pos} {f} (ho : PE C.X o (tE C f)) (hbase : attributeBase o "bit_length" C.X.env (eval o C.X.env) = eval o C.X.env) (hline : (apos.endLine == pos.line) = true) :
    PE C.X (.Call (.Attribute o "bit_length" apos) [] [] pos) (tE C fun ρ h => (f ρ h).bnd fun x h => bitlV x h) := by
  refine (pe_bits ho hbase hline).imp fun σ H Q ⟨φ, ρ, h, rl, po⟩ => ?_
  refine tE.mk rl (po.bnd.imp fun x φ1 h1 H1 s1 hr1 p1 V v rl1 => ?_)
  cases x with
  | int i => exact ⟨i, v, p1.val (V := .int _) hr1 rfl⟩
  | _ => exact p1.elim
end
end EV
set_option linter.all false
set_option maxRecDepth 100000
set_option maxHeartbeats 1000000
/-! Ev7: a call over a heap of its own. -/
namespace EV
open PySem PySem.Spec PyProof.Rows L2

theorem posOf_ok {r : Nat} : ∀ {m : List Nat} {k i : Nat}, posOf r m k = some i → ∃ j, i = k + j ∧ m[j]? = some r
  | [], k, i, e => by cases e
  | x :: xs, k, i, e => by
    unfold posOf at e
    split at e
    · rename_i h
      cases e
      exact ⟨0, rfl, by rw [eq_of_beq h]; rfl⟩
    · obtain ⟨j, e1, e2⟩ := posOf_ok e
      exact ⟨j + 1, by omega, by simpa using e2⟩
mutual
theorem VR.ren {Γ φ φ0 H W W'} {m : List Nat} (k : ∀ (i n : Nat) a, m[i]? = some n → φ[n]? = some a → φ0[i]? = some a) : ∀ (x y : PV) (V : V), PV.ren m x = some y → VR Γ φ H W x V → VR Γ φ0 H W' y V
  | .non, y, v, e, h => by cases e; exact h
  | .bl _, y, v, e, h => by cases e; exact h
  | .int _, y, v, e, h => by cases e; exact h
  | .str _, y, v, e, h => by cases e; exact h
  | .tup xs, y, v, e, h => by
    simp only [PV.ren] at e
    split at e
    · rename_i ys e1
      cases e
      simp only [VR] at h ⊢
      obtain ⟨p, vs, e, s, r⟩ := h
      exact ⟨p, vs, e, s, VRs.ren k xs ys vs e1 r⟩
    · cases e
  | .ref n, y, v, e, h => by
    simp only [PV.ren] at e
    split at e
    · rename_i i e1
      cases e
      obtain ⟨j, e2, e3⟩ := posOf_ok e1
      have e2' : i = j := by omega
      subst e2'
      simp only [VR] at h ⊢
      obtain ⟨b, e, q⟩ := h
      exact ⟨b, k i n b e3 e, q⟩
    · cases e
  | .exc p c x, y, v, e, h => by
    simp only [PV.ren] at e
    split at e
    · rename_i w e1
      cases e
      simp only [VR] at h ⊢
      obtain ⟨b, d, z, e, h1, h2, r⟩ := h
      exact ⟨b, d, z, e, h1, h2, VR.ren k x w z e1 r⟩
    · cases e
  | .clo c xs, y, v, e, h => by cases e
theorem VRs.ren {Γ φ φ0 H W W'} {m : List Nat} (k : ∀ (i n : Nat) a, m[i]? = some n → φ[n]? = some a → φ0[i]? = some a) : ∀ (x y : List PV) (V : List V), PV.rens m x = some y → VRs Γ φ H W x V → VRs Γ φ0 H W' y V
  | [], y, v, e, h => by cases e; exact h
  | x :: xs, y, vs, e, h => by
    simp only [PV.rens] at e
    split at e
    · rename_i y1 ys e1 e2
      cases e
      obtain ⟨v, r, e, h1, h2⟩ := h
      exact ⟨v, r, e, VR.ren k x _ v e1 h1, VRs.ren k xs _ r e2 h2⟩
    · cases e
end
mutual
theorem VR.bak {Γ φ1 φ' H W1 W'} {m : List Nat} {L : Nat} (w : ∀ c v, W1 c v → W' c v) (k : ∀ (i : Nat) a, φ1[i]? = some a → φ'[bakN m L i]? = some a) : ∀ (x : PV) (V : V), VR Γ φ1 H W1 x V → VR Γ φ' H W' (PV.bak m L x) V
  | .non, v, h => h
  | .bl _, v, h => h
  | .int _, v, h => h
  | .str _, v, h => h
  | .tup xs, v, h => by
    simp only [PV.bak, VR] at h ⊢
    obtain ⟨p, vs, e, s, r⟩ := h
    exact ⟨p, vs, e, s, VRs.bak w k xs vs r⟩
  | .ref n, v, h => by
    simp only [PV.bak, VR] at h ⊢
    obtain ⟨b, e, q⟩ := h
    exact ⟨b, k n b e, q⟩
  | .exc p c x, v, h => by
    simp only [PV.bak, VR] at h ⊢
    obtain ⟨b, d, z, e, h1, h2, r⟩ := h
    exact ⟨b, d, z, e, h1, h2, VR.bak w k x z r⟩
  | .clo c xs, v, h => by
    simp only [PV.bak, VR] at h ⊢
    obtain ⟨L, f, c', cl, vs, eL, e, h1, h2, h3, r, l, q⟩ := h
    refine ⟨L, f, c', cl, vs, eL, e, h1, h2, h3, VRs.bak w k xs vs r, l, fun i x u e1 e2 => ?_⟩
    obtain ⟨c, e3, e4⟩ := q i x u e1 e2
    exact ⟨c, e3, w c u e4⟩
theorem VRs.bak {Γ φ1 φ' H W1 W'} {m : List Nat} {L : Nat} (w : ∀ c v, W1 c v → W' c v) (k : ∀ (i : Nat) a, φ1[i]? = some a → φ'[bakN m L i]? = some a) : ∀ (x : List PV) (V : List V), VRs Γ φ1 H W1 x V → VRs Γ φ' H W' (PV.baks m L x) V
  | [], v, h => h
  | x :: xs, vs, h => by
    obtain ⟨v, r, e, h1, h2⟩ := h
    exact ⟨v, r, e, VR.bak w k x v h1, VRs.bak w k xs r h2⟩
end
theorem nodup_of {m : List Nat} : nodupB m = true → m.Nodup := by
  induction m with
  | nil => intro _; exact List.nodup_nil
  | cons x xs ih =>
    intro h
    simp only [nodupB, Bool.and_eq_true, Bool.not_eq_true'] at h
    refine List.nodup_cons.mpr ⟨fun z => ?_, ih h.2⟩
    have := List.contains_iff_mem.mpr z
    rw [h.1] at this
    cases this
theorem renH_ok {m : List Nat} {h : Hh} : ∀ {rs : List Nat} {h0 : Hh}, renH m h rs = some h0 → h0.length = rs.length ∧ ∀ (i n : Nat), rs[i]? = some n → ∃ o u, h[n]? = some o ∧ h0[i]? = some u ∧ HV.ren m o = some u
  | [], h0, e => by
    cases e
    exact ⟨rfl, fun i n z => by simp at z⟩
  | r :: rs, h0, e => by
    unfold renH at e
    split at e
    · rename_i o eo
      split at e
      · rename_i u us e1 e2
        cases e
        obtain ⟨l, k⟩ := renH_ok e2
        refine ⟨by simp [l], fun i n z => ?_⟩
        cases i with
        | zero =>
          simp at z
          subst z
          exact ⟨o, u, eo, rfl, e1⟩
        | succ i => exact k i n (by simpa using z)
      · cases e
    · cases e
theorem wrt_ok {m : List Nat} {L : Nat} : ∀ (rs : List Nat) (os : Hh) (h : Hh), rs.Nodup → rs.length ≤ os.length → (∀ n, n ∈ rs → n < h.length) →
    (wrt m L rs os h).length = h.length + (os.length - rs.length) ∧
    (∀ (i n : Nat), rs[i]? = some n → (wrt m L rs os h)[n]? = os[i]?.map (HV.bak m L)) ∧
    (∀ n, n < h.length → n ∉ rs → (wrt m L rs os h)[n]? = h[n]?) ∧
    ∀ k, (wrt m L rs os h)[h.length + k]? = os[rs.length + k]?.map (HV.bak m L)
  | [], os, h, _, _, _ => by
    refine ⟨by simp [wrt], fun i n z => by simp at z, fun n hn _ => by simp [wrt, List.getElem?_append_left hn], fun k => ?_⟩
    simp only [wrt]
    rw [List.getElem?_append_right (by omega), List.getElem?_map]
    simp
  | r :: rs, [], h, _, l, _ => by simp at l
  | r :: rs, o :: os, h, nd, l, lt => by
    have nd' := List.nodup_cons.mp nd
    obtain ⟨i1, i2, i3, i4⟩ := wrt_ok (m := m) (L := L) rs os (h.set r (o.bak m L)) nd'.2 (by simpa using l) (fun n hn => by rw [List.length_set]; exact lt n (List.mem_cons_of_mem _ hn))
    simp only [List.length_set] at i1 i3 i4
    refine ⟨by simp only [wrt, i1, List.length_cons]; omega, fun i n z => ?_, fun n hn hm => ?_, fun k => ?_⟩
    · cases i with
      | zero =>
        simp at z
        subst z
        have := i3 r (lt r List.mem_cons_self) nd'.1
        simp only [wrt, this]
        rw [List.getElem?_set_self (lt r List.mem_cons_self)]
        rfl
      | succ i => exact i2 i n (by simpa using z)
    · have h1 : n ≠ r := fun z => hm (z ▸ List.mem_cons_self)
      have h2 : n ∉ rs := fun z => hm (List.mem_cons_of_mem _ z)
      simp only [wrt, i3 n hn h2]
      rw [List.getElem?_set_ne (Ne.symm h1)]
    · simp only [wrt, i4 k, List.length_cons]
      rw [show rs.length + 1 + k = (rs.length + k) + 1 by omega, List.getElem?_cons_succ]

theorem OR.ren {Γ φ φ0 H W W'} {m : List Nat} (k : ∀ (i n : Nat) a, m[i]? = some n → φ[n]? = some a → φ0[i]? = some a) {o u : HV} {a : Addr} (e : HV.ren m o = some u) (h : OR Γ φ H W o a) : OR Γ φ0 H W' u a := by
  cases o with
  | lst f xs =>
    simp only [HV.ren] at e
    split at e
    · rename_i ys e1
      cases e
      cases f with
      | false =>
        obtain ⟨vs, e, r⟩ := h
        exact ⟨vs, e, VRs.ren k xs ys vs e1 r⟩
      | true =>
        obtain ⟨vs, e, r⟩ := h
        exact ⟨vs, e, VRs.ren k xs ys vs e1 r⟩
    · cases e
  | dct0 => cases e; exact h
  | dead => cases e
theorem OR.bak {Γ φ1 φ' H W1 W'} {m : List Nat} {L : Nat} (w : ∀ c v, W1 c v → W' c v) (k : ∀ (i : Nat) a, φ1[i]? = some a → φ'[bakN m L i]? = some a) {o : HV} {a : Addr} (h : OR Γ φ1 H W1 o a) : OR Γ φ' H W' (o.bak m L) a := by
  cases o with
  | lst f xs =>
    cases f with
    | false =>
      obtain ⟨vs, e, r⟩ := h
      exact ⟨vs, e, VRs.bak w k xs vs r⟩
    | true =>
      obtain ⟨vs, e, r⟩ := h
      exact ⟨vs, e, VRs.bak w k xs vs r⟩
  | dct0 => exact h
  | dead => trivial
theorem lst_ren {m : List Nat} {o : HV} {xs : List PV} (e : HV.ren m o = some (.lst false xs)) : ∃ ys, o = .lst false ys := by
  cases o with
  | lst f ys =>
    simp only [HV.ren] at e
    split at e
    · cases e; exact ⟨_, rfl⟩
    · cases e
  | dct0 => cases e
  | dead => cases e
theorem lst_bak {m : List Nat} {L : Nat} {o : HV} {xs : List PV} (e : HV.bak m L o = .lst false xs) : ∃ ys, o = .lst false ys := by
  cases o with
  | lst f ys => cases e; exact ⟨_, rfl⟩
  | dct0 => cases e
  | dead => cases e

theorem bakN_lt {m : List Nat} {L i n : Nat} (h : m[i]? = some n) : bakN m L i = n := by unfold bakN; rw [h]
theorem bakN_ge {m : List Nat} {L i : Nat} (h : m.length ≤ i) : bakN m L i = L + (i - m.length) := by unfold bakN; rw [List.getElem?_eq_none h]
structure Grb (Γ : Gm) (φ φ0 : List Addr) (H : Hp) (m : List Nat) (h h0 : Hh) : Prop where
  len : φ0.length = m.length
  at_ : ∀ (i n : Nat), m[i]? = some n → ∃ a o u, φ[n]? = some a ∧ φ0[i]? = some a ∧ h[n]? = some o ∧ h0[i]? = some u ∧ HV.ren m o = some u
  nd : m.Nodup
theorem grab_ok {Γ φ H W W' h args Vs m as h0} (r : HR Γ φ H W h) (v : VRs Γ φ H W args Vs) (g : grab h args = some (m, as, h0)) :
    ∃ φ0, Grb Γ φ φ0 H m h h0 ∧ HR Γ φ0 H W' h0 ∧ VRs Γ φ0 H W' as Vs := by
  unfold grab at g
  split at g
  · rename_i m' em
    split at g
    · rename_i nb
      split at g
      · rename_i as' h0' e1 e2
        cases g
        obtain ⟨l0, k0⟩ := renH_ok e2
        have nd := nodup_of nb
        have key : ∀ (i n : Nat), m[i]? = some n → ∃ a o u, φ[n]? = some a ∧ (m.map fun n => φ[n]?.getD 0)[i]? = some a ∧ h[n]? = some o ∧ h0[i]? = some u ∧ HV.ren m o = some u := fun i n e => by
          obtain ⟨o, u, q1, q2, q3⟩ := k0 i n e
          have hn : n < φ.length := by rw [r.len]; exact (List.getElem?_eq_some_iff.mp q1).1
          refine ⟨φ[n], o, u, List.getElem?_eq_getElem hn, ?_, q1, q2, q3⟩
          rw [List.getElem?_map, e]
          simp [List.getElem?_eq_getElem hn]
        have kk : ∀ (i n : Nat) a, m[i]? = some n → φ[n]? = some a → (m.map fun n => φ[n]?.getD 0)[i]? = some a := fun i n a e f => by
          rw [List.getElem?_map, e]
          simp [f]
        have lift : ∀ {i : Nat} {u : HV}, h0[i]? = some u → ∃ n, m[i]? = some n := fun {i u} e => by
          have hi : i < m.length := by rw [← l0]; exact (List.getElem?_eq_some_iff.mp e).1
          exact ⟨m[i], List.getElem?_eq_getElem hi⟩
        refine ⟨m.map fun n => φ[n]?.getD 0, ⟨by simp, key, nd⟩, ⟨by simp [l0], fun i u a q1 q2 => ?_, fun i j a xs ys q1 q2 q3 q4 => ?_, r.tabs⟩, VRs.ren kk args as Vs e1 v⟩
        · obtain ⟨n, en⟩ := lift q1
          obtain ⟨b, o, u', p1, p2, p3, p4, p5⟩ := key i n en
          rw [q1] at p4; cases p4
          rw [q2] at p2; cases p2
          exact (r.at_ n o a p3 p1).ren kk p5
        · obtain ⟨n, en⟩ := lift q3
          obtain ⟨n', en'⟩ := lift q4
          obtain ⟨b, o, u, p1, p2, p3, p4, p5⟩ := key i n en
          obtain ⟨b', o', u', p1', p2', p3', p4', p5'⟩ := key j n' en'
          rw [q1] at p2; cases p2
          rw [q2] at p2'; cases p2'
          rw [q3] at p4; cases p4
          rw [q4] at p4'; cases p4'
          obtain ⟨z, rfl⟩ := lst_ren p5
          obtain ⟨z', rfl⟩ := lst_ren p5'
          have := r.inj n n' a _ _ p1 p1' p3 p3'
          subst this
          have hi := (List.getElem?_eq_some_iff.mp en).1
          exact (List.getElem?_inj hi nd).mp (en.trans en'.symm)
      · cases g
    · cases g
  · cases g
theorem back_ok {Γ φ φ0 φ1 H H' W W1 W' h h0 h1 m} (r : HR Γ φ H W h) (G : Grb Γ φ φ0 H m h h0) (r0 : HR Γ φ0 H W1 h0) (s : Stp φ0 φ1 H H') (r1 : HR Γ φ1 H' W1 h1) (w1 : ∀ c v, W1 c v → W' c v) (w : ∀ c v, W c v → W' c v) :
    ∃ φ', Stp φ φ' H H' ∧ HR Γ φ' H' W' (wrt m h.length m h1 h) ∧ ∀ x V, VR Γ φ1 H' W1 x V → VR Γ φ' H' W' (PV.bak m h.length x) V := by
  have le1 : m.length ≤ φ1.length := by
    by_cases hz : m.length = 0
    · omega
    · have hlt : m.length - 1 < φ0.length := by rw [G.len]; omega
      have := s.pre (m.length - 1) _ (List.getElem?_eq_getElem hlt)
      have := (List.getElem?_eq_some_iff.mp this).1
      omega
  have mlt : ∀ n, n ∈ m → n < h.length := fun n hn => by
    obtain ⟨i, hi⟩ := List.mem_iff_getElem?.mp hn
    obtain ⟨a, o, u, p1, p2, p3, p4, p5⟩ := G.at_ i n hi
    exact (List.getElem?_eq_some_iff.mp p3).1
  obtain ⟨k1, k2, k3, k4⟩ := wrt_ok (m := m) (L := h.length) m h1 h G.nd (by rw [← r1.len]; exact le1) mlt
  -- every address of φ0 is one of φ, and stands at a place of m
  have in0 : ∀ a, a ∈ φ0 → ∃ i n, m[i]? = some n ∧ φ[n]? = some a ∧ φ0[i]? = some a := fun a ha => by
    obtain ⟨i, hi⟩ := List.mem_iff_getElem?.mp ha
    have hlt : i < m.length := by rw [← G.len]; exact (List.getElem?_eq_some_iff.mp hi).1
    obtain ⟨b, o, u, p1, p2, p3, p4, p5⟩ := G.at_ i m[i] (List.getElem?_eq_getElem hlt)
    rw [hi] at p2; cases p2
    exact ⟨i, _, List.getElem?_eq_getElem hlt, p1, hi⟩
  have nb : ∀ (i : Nat) a, φ1[i]? = some a → (φ ++ φ1.drop m.length)[bakN m h.length i]? = some a := fun i a e => by
    by_cases hi : i < m.length
    · obtain ⟨b, o, u, p1, p2, p3, p4, p5⟩ := G.at_ i m[i] (List.getElem?_eq_getElem hi)
      have q := s.pre i b p2
      rw [e] at q; cases q
      rw [bakN_lt (List.getElem?_eq_getElem hi), List.getElem?_append_left (List.getElem?_eq_some_iff.mp p1).1, p1]
    · rw [bakN_ge (by omega), ← r.len, List.getElem?_append_right (by omega), List.getElem?_drop]
      rw [show m.length + (φ.length + (i - m.length) - φ.length) = i by omega]
      exact e
  have stp : Stp φ (φ ++ φ1.drop m.length) H H' := by
    refine ⟨fun n a e => by rw [List.getElem?_append_left (List.getElem?_eq_some_iff.mp e).1]; exact e, fun a ha => ?_, fun b o e nt l => ?_, s.tbl⟩
    · rcases List.mem_append.mp ha with z | z
      · exact .inl z
      · rcases s.new a (List.mem_of_mem_drop z) with q | q
        · obtain ⟨i, n, _, q2, _⟩ := in0 a q
          exact .inl (List.mem_of_getElem? q2)
        · exact .inr q
    · refine s.keep b o e nt fun z hm => ?_
      obtain ⟨i, n, _, q2, _⟩ := in0 b hm
      exact l z (List.mem_of_getElem? q2)
  -- our own list at a place that is not the call's is none of the call's
  have sep : ∀ (n : Nat) a xs, h[n]? = some (.lst false xs) → φ[n]? = some a → n ∉ m → a ∉ φ0 := fun n a xs q1 q2 hm ha => by
    obtain ⟨vs, e, _⟩ := r.at_ n _ a q1 q2
    obtain ⟨i, n', p1, p2, p3⟩ := in0 a ha
    obtain ⟨b, o', u', t1, t2, t3, t4, t5⟩ := G.at_ i n' p1
    rw [p2] at t1; cases t1
    have old := r.at_ n' o' a t3 p2
    cases o' with
    | lst f' zs =>
      cases f' with
      | false =>
        have := r.inj n n' a _ _ q2 p2 q1 t3
        subst this
        exact hm (List.mem_of_getElem? p1)
      | true =>
        obtain ⟨vs', ⟨ob, ev⟩, _⟩ := old
        rw [e] at ev; cases ev
    | dct0 =>
      have old' : H a = some (.dK []) := old
      rw [e] at old'; cases old'
    | dead => cases t5
  -- where a place of the result stands
  have plc : ∀ (n : Nat) o, (wrt m h.length m h1 h)[n]? = some o → (∃ i o1, m[i]? = some n ∧ h1[i]? = some o1 ∧ o = HV.bak m h.length o1 ∧ ∀ a, (φ ++ φ1.drop m.length)[n]? = some a → φ1[i]? = some a) ∨
      (n ∉ m ∧ h[n]? = some o ∧ ∀ a, (φ ++ φ1.drop m.length)[n]? = some a → φ[n]? = some a) ∨
      ∃ i o1, m.length ≤ i ∧ n = h.length + (i - m.length) ∧ h1[i]? = some o1 ∧ o = HV.bak m h.length o1 ∧ ∀ a, (φ ++ φ1.drop m.length)[n]? = some a → φ1[i]? = some a := fun n o q1 => by
    by_cases hm : n ∈ m
    · obtain ⟨i, hi⟩ := List.mem_iff_getElem?.mp hm
      rw [k2 i n hi] at q1
      cases e : h1[i]? with
      | none => rw [e] at q1; cases q1
      | some o1 =>
        rw [e] at q1
        cases q1
        refine .inl ⟨i, o1, hi, e, rfl, fun a q2 => ?_⟩
        obtain ⟨b, o', u', p1, p2, p3, p4, p5⟩ := G.at_ i n hi
        rw [List.getElem?_append_left (List.getElem?_eq_some_iff.mp p1).1, p1] at q2
        cases q2
        exact s.pre i _ p2
    · by_cases hn : n < h.length
      · rw [k3 n hn hm] at q1
        refine .inr (.inl ⟨hm, q1, fun a q2 => ?_⟩)
        rw [List.getElem?_append_left (by rw [r.len]; exact hn)] at q2
        exact q2
      · have en : n = h.length + (n - h.length) := by omega
        have q1' := q1
        rw [en, k4 (n - h.length)] at q1
        cases e : h1[m.length + (n - h.length)]? with
        | none => rw [e] at q1; cases q1
        | some o1 =>
          rw [e] at q1
          cases q1
          refine .inr (.inr ⟨m.length + (n - h.length), o1, by omega, by omega, e, rfl, fun a q2 => ?_⟩)
          rw [List.getElem?_append_right (by rw [r.len]; omega), List.getElem?_drop, r.len] at q2
          exact q2
  refine ⟨φ ++ φ1.drop m.length, stp, ⟨?_, fun n o a q1 q2 => ?_, fun n n' a xs ys q1 q2 q3 q4 => ?_, r1.tabs⟩, fun x V v => VR.bak w1 nb x V v⟩
  · rw [k1, List.length_append, List.length_drop, r.len, r1.len]
  · rcases plc n o q1 with ⟨i, o1, e1, e2, rfl, e3⟩ | ⟨hm, e1, e2⟩ | ⟨i, o1, _, _, e2, rfl, e3⟩
    · exact (r1.at_ i o1 a e2 (e3 a q2)).bak w1 nb
    · have old := r.at_ n o a e1 (e2 a q2)
      cases o with
      | lst f xs =>
        cases f with
        | false =>
          obtain ⟨vs, ev, rv⟩ := old
          exact ⟨vs, s.keep a _ ev (fun _ z => nomatch z) fun _ => sep n a xs e1 (e2 a q2) hm, VRs.mono stp w xs vs rv⟩
        | true =>
          obtain ⟨vs, ev, rv⟩ := old
          exact ⟨vs, stp.sqF ev, VRs.mono stp w xs vs rv⟩
      | dct0 => exact stp.fix (show H a = some (.dK []) from old) (fun _ z => nomatch z) fun _ z => nomatch z
      | dead => trivial
    · exact (r1.at_ i o1 a e2 (e3 a q2)).bak w1 nb
  · -- a list of ours stands at one place
    have mix : ∀ {n n' : Nat} {xs ys : List PV} {i : Nat} {o1 : HV}, n' ∉ m → h[n']? = some (.lst false ys) → φ[n']? = some a → h1[i]? = some o1 → φ1[i]? = some a → False := fun {n n' xs ys i o1} hm t1 t2 t3 t4 => by
      rcases s.new a (List.mem_of_getElem? t4) with z | z
      · exact sep n' a ys t1 t2 hm z
      · obtain ⟨vs, e, _⟩ := r.at_ n' _ a t1 t2
        exact z vs e
    have one : ∀ {i i' : Nat} {o1 o1' : HV}, h1[i]? = some o1 → h1[i']? = some o1' → .lst false xs = HV.bak m h.length o1 → .lst false ys = HV.bak m h.length o1' → φ1[i]? = some a → φ1[i']? = some a → i = i' := fun {i i' o1 o1'} t1 t2 t3 t4 t5 t6 => by
      obtain ⟨z, rfl⟩ := lst_bak t3.symm
      obtain ⟨z', rfl⟩ := lst_bak t4.symm
      exact r1.inj i i' a _ _ t5 t6 t1 t2
    rcases plc n _ q3 with ⟨i, o1, e1, e2, e, e3⟩ | ⟨hm, e1, e2⟩ | ⟨i, o1, l1, l2, e2, e, e3⟩ <;> rcases plc n' _ q4 with ⟨i', o1', e1', e2', e', e3'⟩ | ⟨hm', e1', e2'⟩ | ⟨i', o1', l1', l2', e2', e', e3'⟩
    · have := one e2 e2' e e' (e3 a q1) (e3' a q2)
      subst this
      rw [e1] at e1'
      exact Option.some.inj e1'
    · exact (mix (n := n) (xs := xs) hm' e1' (e2' a q2) e2 (e3 a q1)).elim
    · have := one e2 e2' e e' (e3 a q1) (e3' a q2)
      subst this
      have := (List.getElem?_eq_some_iff.mp e1).1
      omega
    · exact (mix (n := n) (xs := xs) hm e1 (e2 a q1) e2' (e3' a q2)).elim
    · exact r.inj n n' a _ _ (e2 a q1) (e2' a q2) e1 e1'
    · exact (mix (n := n) (xs := xs) hm e1 (e2 a q1) e2' (e3' a q2)).elim
    · have := one e2 e2' e e' (e3 a q1) (e3' a q2)
      subst this
      have := (List.getElem?_eq_some_iff.mp e1').1
      omega
    · exact (mix (n := n) (xs := xs) hm' e1' (e2' a q2) e2 (e3 a q1)).elim
    · have := one e2 e2' e e' (e3 a q1) (e3' a q2)
      subst this
      omega
end EV
set_option linter.all false
set_option maxRecDepth 100000
set_option maxHeartbeats 1000000
/-! Ev8: targets, statements, loops, comprehensions. -/
namespace EV
open PySem PySem.Spec PyProof.Rows L2

theorem HR.w {Γ φ H W W' h} (r : HR Γ φ H W h) (w : ∀ c v, W c v → W' c v) : HR Γ φ H W' h :=
  ⟨r.len, fun n o a e1 e2 => (r.at_ n o a e1 e2).mono Stp.refl w fun vs e => e, r.inj, r.tabs⟩
theorem VR.w {Γ φ H W W' x V} (r : VR Γ φ H W x V) (w : ∀ c v, W c v → W' c v) : VR Γ φ H W' x V := VR.mono Stp.refl w _ _ r
theorem VRs.w {Γ φ H W W' x V} (r : VRs Γ φ H W x V) (w : ∀ c v, W c v → W' c v) : VRs Γ φ H W' x V := VRs.mono Stp.refl w _ _ r
theorem Ct.w_off {C : Ct} (hf : C.flag = false) {σ H} : ∀ c v, C.W σ H c v → Trk H c v := fun c v z => z.elim id fun y => by rw [hf] at y; cases y.1
theorem Ct.w_on {C : Ct} {σ H} : ∀ c v, Trk H c v → C.W σ H c v := fun c v z => .inl z
/-- closures forgotten: cells do not matter -/
theorem HR.kill {Γ φ H W W' h} (r : HR Γ φ H W h) : HR Γ φ H W' (killH h) := by
  have g : ∀ {n : Nat} {o : HV}, (killH h)[n]? = some o → (h[n]? = some o ∧ o.noClo = true) ∨ o = .dead := fun {n o} e => by
    unfold killH at e
    rw [List.getElem?_map] at e
    cases q : h[n]? with
    | none => rw [q] at e; cases e
    | some u =>
      rw [q] at e
      simp only [Option.map_some, Option.some.injEq] at e
      split at e
      · rename_i k
        subst e
        exact .inl ⟨rfl, k⟩
      · exact .inr e.symm
  refine ⟨by unfold killH; rw [List.length_map]; exact r.len, fun n o a e1 e2 => ?_, fun n m a xs ys e1 e2 e3 e4 => ?_, r.tabs⟩
  · rcases g e1 with ⟨q, k⟩ | rfl
    · have old := r.at_ n o a q e2
      cases o with
      | lst f xs =>
        cases f with
        | false =>
          obtain ⟨vs, e, z⟩ := old
          exact ⟨vs, e, VRs.noClo xs vs k z⟩
        | true =>
          obtain ⟨vs, e, z⟩ := old
          exact ⟨vs, e, VRs.noClo xs vs k z⟩
      | dct0 => exact old
      | dead => trivial
    · trivial
  · rcases g e3 with ⟨q, _⟩ | q
    · rcases g e4 with ⟨q', _⟩ | q'
      · exact r.inj n m a xs ys e1 e2 q q'
      · cases q'
    · cases q
theorem killE_get {ρ : En} {i : Nat} {x : PV} (e : (killE ρ)[i]? = some (some x)) : ρ[i]? = some (some x) ∧ x.noClo = true := by
  unfold killE at e
  rw [List.getElem?_map] at e
  cases q : ρ[i]? with
  | none => rw [q] at e; cases e
  | some o =>
    rw [q] at e
    cases o with
    | none => cases e
    | some v =>
      simp only [Option.map_some, Option.some.injEq] at e
      split at e
      · rename_i k
        cases e
        exact ⟨rfl, k⟩
      · cases e
theorem RE.kill {Γ φ H W W' ρ σ} (r : RE Γ φ H W ρ σ) : RE Γ φ H W' (killE ρ) σ := ⟨fun i x e => by
  obtain ⟨q, k⟩ := killE_get e
  obtain ⟨v, e1, z⟩ := r.get i x q
  exact ⟨v, e1, VR.noClo x v k z⟩⟩
/-- a slot is written -/
theorem RE.put {Γ φ H W ρ σ} {i : Nat} {x V} (r : RE Γ φ H W ρ σ) (v : VR Γ φ H W x V) (hi : i < σ.length) : RE Γ φ H W (ρ.set i (some x)) (σ.set i (some V)) := ⟨fun j y e => by
  by_cases hj : j = i
  · subst hj
    by_cases hl : j < ρ.length
    · rw [List.getElem?_set_self hl] at e
      cases e
      exact ⟨V, List.getElem?_set_self hi, v⟩
    · rw [List.getElem?_eq_none (by rw [List.length_set]; omega)] at e
      cases e
  · rw [List.getElem?_set_ne (Ne.symm hj)] at e
    obtain ⟨u, e1, z⟩ := r.get j y e
    exact ⟨u, by rw [List.getElem?_set_ne (Ne.symm hj)]; exact e1, z⟩⟩
theorem Agr.set {σ : L2.St} {i : Nat} {v} : Agr [i] σ (σ.set i v) := ⟨List.length_set, fun j hj => List.getElem?_set_ne fun e => hj (by rw [e]; exact List.mem_singleton.mpr rfl)⟩
theorem Agr.refl {ws} {σ : L2.St} : Agr ws σ σ := ⟨rfl, fun _ _ => rfl⟩
theorem Agr.trans {ws vs} {σ σ1 σ2 : L2.St} (a : Agr ws σ σ1) (b : Agr vs σ1 σ2) : Agr (ws ++ vs) σ σ2 :=
  ⟨b.1.trans a.1, fun i hi => (b.2 i fun h => hi (List.mem_append_right _ h)).trans (a.2 i fun h => hi (List.mem_append_left _ h))⟩

section
variable {C : Ct}
/-- a slot is written by the evaluator -/
theorem put_ok {F : Cfg} {i : Nat} {x : PV} {V} {φ σ H} {ρ : En} {h : Hh} {k} (fl : C.flag = true → F.flag = true ∧ F.capd = C.capd) (rl : Rl C φ h ρ σ H) (v : VR C.Γ φ H (C.W σ H) x V) (hi : i < σ.length) (hnf : C.flag = true → ∀ y, C.X.N[i]? = some y → C.X.env.kindOf y ≠ some .free)
    (p : PoG C φ H (putS F i x ρ h) k) : ∃ ρ' h', Rl C φ h' ρ' (σ.set i (some V)) H ∧ k ρ' φ h' H := by
  unfold putS at p
  split at p
  · rename_i c
    split at p
    · rename_i n
      exact ⟨_, _, ⟨rl.hr.kill, RE.put rl.re.kill (VR.noClo x V n v) hi⟩, p φ H Stp.refl⟩
    · exact p.elim
  · rename_i c
    have w : ∀ c v, C.W σ H c v → C.W (σ.set i (some V)) H c v := fun a u z => by
      rcases z with z | ⟨hf, j, y, h2, h3, h4, h5⟩
      · exact .inl z
      · refine .inr ⟨hf, j, y, h2, ?_, h4, h5⟩
        obtain ⟨f1, f2⟩ := fl hf
        have ne : i ≠ j := fun e => by
          subst e
          rcases h5 with ⟨h1, _⟩ | h1
          · apply c
            rw [f1, f2, Bool.true_and]
            exact List.contains_iff_mem.mpr h1
          · exact hnf hf y h2 h1
        rw [List.getElem?_set_ne ne]
        exact h3
    exact ⟨_, _, ⟨rl.hr.w w, RE.put (rl.re.mono Stp.refl w) (v.w w) hi⟩, p φ H Stp.refl⟩
theorem loc_nf {X : Cx} {i : Nat} {x : Str} (hi : X.N[i]? = some x) (hx : Loc X.env.scope x) : ∀ y, X.N[i]? = some y → X.env.kindOf y ≠ some .free := fun y e z => by
  rw [hi] at e
  cases e
  have z : X.env.scope.names.lookup x = some .free := z
  rcases hx with k | k <;> rw [z] at k <;> cases k
theorem sg_tn {F : Cfg} {i : Nat} {x : Str} {pos : Pos} (nd : C.X.N.Nodup) (fl : C.flag = true → F.flag = true ∧ F.capd = C.capd) (hi : C.X.N[i]? = some x) (hx : Loc C.X.env.scope x) (hf : C.X.fn x = true ∨ C.X.env.scope.names.lookup x = some .local) :
    PG C.X (.Name x pos) (tG C [i] fun v ρ h => putS F i v ρ h) := by
  refine ⟨fun pins s σ H V u Q I r ⟨φ, ρ, h, x', rl, v, p⟩ => ?_⟩
  have hl : i < σ.length := by rw [I.len]; exact (List.getElem?_eq_some_iff.mp hi).1
  obtain ⟨ρ', h', rl', q⟩ := put_ok fl rl v hl (fun _ => loc_nf hi hx) p
  exact (pg_name nd hi hx hf).run pins s σ H V u Q I r (q _ rl' Agr.set)
theorem sgs_nil : PGs C.X [] (tGs C [] fun vs ρ h => match vs with
    | [] => .ok ρ h
    | _ => .err) := by
  refine ⟨fun pins s σ H V u Q I r ⟨φ, ρ, h, xs, rl, v, p⟩ => ?_⟩
  cases xs with
  | nil =>
    have e : V = [] := v
    exact pgs_nil.run pins s σ H V u Q I r ⟨e, p φ H Stp.refl σ rl Agr.refl⟩
  | cons x xs => exact p.elim
theorem assignEach_cons {e : Expr} {es : List Expr} {env : Env} (h : isStar e = false) : assignEach (e :: es) env = (false, assign e env) :: assignEach es env := by
  cases e <;> first | rfl | cases h
theorem PoG.if_ {α : Type} {C : Ct} {φ H} {c : Prop} [Decidable c] {r : Rz α} {k} (p : PoG C φ H (if c then r else .err) k) : c ∧ PoG C φ H r k := by
  by_cases h : c
  · rw [if_pos h] at p
    exact ⟨h, p⟩
  · rw [if_neg h] at p
    exact p.elim
theorem sgs_cons {F : Cfg} {e : Expr} {es : List Expr} {wa wb f g} (fl : C.flag = true → F.flag = true ∧ F.capd = C.capd) (hs : isStar e = false) (h1 : PG C.X e (tG C wa f)) (h2 : PGs C.X es (tGs C wb g)) :
    PGs C.X (e :: es) (tGs C (wa ++ wb) fun vs ρ h => match vs with
      | v :: vs => if (!F.flag || PV.noClos vs) = true then (f v ρ h).bnd fun ρ h => g vs ρ h else .err
      | [] => .err) := by
  refine ⟨fun pins s σ H V u Q I r ⟨φ, ρ, h, xs, rl, v, p⟩ => ?_⟩
  cases xs with
  | nil => exact p.elim
  | cons x xs =>
    obtain ⟨v1, vr, e, k1, k2⟩ := v
    subst e
    obtain ⟨c, p⟩ := p.if_
    refine (pgs_cons h1 h2 (by rw [assignEach_cons hs]; rfl)).run pins s σ H _ u Q I r ⟨v1, vr, rfl, φ, ρ, h, x, rl, k1, p.bnd.imp fun ρ1 φ1 h1 H1 s1 p1 σ1 rl1 ag => ?_⟩
    refine ⟨φ1, ρ1, h1, xs, rl1, ?_, p1.imp fun ρ2 φ2 h2 H2 s2 q σ2 rl2 ag2 => q σ2 rl2 (ag.trans ag2)⟩
    have k3 := VRs.mono s1 (Ct.wm s1) _ _ k2
    cases hf : C.flag with
    | false => exact k3.w fun c v z => Ct.w_on c v (Ct.w_off hf c v z)
    | true =>
      obtain ⟨f1, _⟩ := fl hf
      rw [f1] at c
      exact VRs.noClo _ _ (by simpa using c) k3
theorem findIdx_none {es : List Expr} {env : Env} (h : es.all (fun e => !isStar e) = true) : (assignEach es env).findIdx? (·.1) = none ∧ (assignEach es env).length = es.length := by
  induction es with
  | nil => exact ⟨rfl, rfl⟩
  | cons e r ih =>
    rw [List.all_cons, Bool.and_eq_true] at h
    have h1 : isStar e = false := by simpa using h.1
    obtain ⟨i1, i2⟩ := ih h.2
    rw [assignEach_cons h1]
    refine ⟨?_, by rw [List.length_cons, List.length_cons, i2]⟩
    rw [List.findIdx?_cons]
    simp [i1]
theorem sg_tt {es : List Expr} {k : Nat} {pos : Pos} {n : Nat} {ws g} (hK : C.X.K = C.Γ.K) (hc : C.X.calm = true) (hn : es.length = n) (hs : es.all (fun e => !isStar e) = true) (hg : PGs C.X es (tGs C ws g)) :
    PG C.X (.Tuple es k pos) (tG C ws fun v ρ h => match v with
      | .tup xs => if xs.length = n then g xs ρ h else .err
      | _ => .err) := by
  obtain ⟨f1, f2⟩ := findIdx_none (env := C.X.env) hs
  refine ⟨fun pins s σ H V u Q I r ⟨φ, ρ, h, x, rl, v, p⟩ => ?_⟩
  cases x with
  | tup xs =>
    obtain ⟨a, vs, rfl, st, vr⟩ := vr_tup v
    obtain ⟨c, p⟩ := PoG.if_ (show PoG C φ H (if xs.length = n then g xs ρ h else .err) _ from p)
    refine (pg_tup hc hg (by rw [f2, hn]) f1).run pins s σ H _ u Q I r ⟨a, vs, rfl, by rw [hK]; exact st, by rw [vr.len, c], φ, ρ, h, xs, rl, vr, p⟩
  | _ => exact p.elim
theorem sg_tsub {o i : Expr} {pos : Pos} {f g} (hi : (match i with | .Slice .. => false | _ => true) = true) (ho : PE C.X o (tE C f)) (hb : PE C.X i (tE C g)) :
    PG C.X (.Subscript o i pos) (tG C [] fun v ρ h => (f ρ h).bnd fun x h => (g ρ h).bnd fun y h => match x, y with
      | .ref n, .int k => match isFl h n with
        | some xs => match ixN xs.length k with
          | some j => .ok ρ (h.set n (.lst false (xs.set j v)))
          | none => .err
        | none => .err
      | _, _ => .err) := by
  refine ⟨fun pins s σ H V u Q I r ⟨φ, ρ, h, x, rl, v, p⟩ => ?_⟩
  refine (pg_sub ho hb set_list (by cases i <;> first | (intro _; rfl) | cases hi)).run pins s σ H _ u Q I r ?_
  refine tE.mk rl (p.bnd.po.imp fun x1 φ1 h1 H1 s1 hr1 p1 V1 v1 rl1 => ?_)
  refine tE.mk rl1 (p1.bnd.po.imp fun x2 φ2 h2 H2 s2 hr2 p2 V2 v2 rl2 => ?_)
  cases x1 with
  | ref n =>
    cases x2 with
    | int k =>
      obtain rfl := vr_int v2
      dsimp only at p2
      cases e : isFl h2 n with
      | none => rw [e] at p2; exact p2.elim
      | some xs =>
        rw [e] at p2
        dsimp only at p2
        cases ej : ixN xs.length k with
        | none => rw [ej] at p2; exact p2.elim
        | some j =>
          rw [ej] at p2
          obtain ⟨a, vs, rfl, ea, eh, eH, vr⟩ := hr2.isFl e (VR.mono s2 (Ct.wm s2) _ _ v1)
          have s12 := s1.trans s2
          have q := VRs.set j vr (VR.mono s12 (Ct.wm s12) _ _ v)
          refine ⟨a, vs, k, j, rfl, rfl, eH, by rw [vr.len]; exact ej, ?_⟩
          have s3 : Stp φ2 φ2 H2 (upd H2 a (.lst (vs.set j V))) := (hr2.write ea eh q (fun _ _ z => z)).1
          have hr3 := (hr2.write ea eh q (Ct.wm (C := C) (σ := σ) s3)).2
          exact p2 φ2 _ s3 σ (rl2.on s3 hr3) Agr.refl
    | _ => exact p2.elim
  | _ => cases x2 <;> exact p2.elim

/-! ### statements -/
theorem ss_nil : PSs C.X [] (tS C fun ρ h => .ok (.nx ρ) h) := pss_nil.imp fun D σ H ⟨φ, ρ, h, rl, p⟩ => p φ H Stp.refl σ rl
theorem ss_cons {st : Stmt} {r : List Stmt} {f g} (h1 : PS C.X st (tS C f)) (h2 : PSs C.X r (tS C g)) :
    PSs C.X (st :: r) (tS C fun ρ h => (f ρ h).bnd fun f h => match f with
      | .nx ρ => g ρ h
      | f => .ok f h) := by
  refine (pss_cons h1 h2).imp fun D σ H ⟨φ, ρ, h, rl, p⟩ => ?_
  refine ⟨φ, ρ, h, rl, p.bnd.imp fun fl φ1 h1 H1 s1 p1 => ?_⟩
  cases fl with
  | nx ρ1 => exact fun σ1 rl1 => ⟨φ1, ρ1, h1, rl1, p1⟩
  | rt v => exact p1 φ1 H1 Stp.refl
  | bk ρ1 => exact p1 φ1 H1 Stp.refl
  | ct ρ1 => exact p1 φ1 H1 Stp.refl
theorem Rl.kil {φ h ρ σ H} (rl : Rl C φ h ρ σ H) (i : Nat) : Rl C φ (match slot ρ i with
    | some (.ref n) => h.set n .dead
    | _ => h) (ρ.set i none) σ H := by
  refine ⟨?_, ⟨fun j x e => ?_⟩⟩
  · split
    · rename_i n _
      have g : ∀ {k : Nat} {o : HV}, (h.set n .dead)[k]? = some o → h[k]? = some o ∨ o = .dead := fun {k o} e => by
        by_cases hk : k = n
        · subst hk
          by_cases hl : k < h.length
          · rw [List.getElem?_set_self hl] at e; cases e; exact .inr rfl
          · rw [List.getElem?_eq_none (by rw [List.length_set]; omega)] at e; cases e
        · rw [List.getElem?_set_ne (Ne.symm hk)] at e
          exact .inl e
      refine ⟨by rw [List.length_set]; exact rl.hr.len, fun k o a e1 e2 => ?_, fun k m a xs ys e1 e2 e3 e4 => ?_, rl.hr.tabs⟩
      · rcases g e1 with q | rfl
        · exact rl.hr.at_ k o a q e2
        · trivial
      · rcases g e3 with q | q
        · rcases g e4 with q' | q'
          · exact rl.hr.inj k m a xs ys e1 e2 q q'
          · cases q'
        · cases q
    · exact rl.hr
  · by_cases hj : j = i
    · subst hj
      by_cases hl : j < ρ.length
      · rw [List.getElem?_set_self hl] at e; cases e
      · rw [List.getElem?_eq_none (by rw [List.length_set]; omega)] at e; cases e
    · rw [List.getElem?_set_ne (Ne.symm hj)] at e
      exact rl.re.get j x e
theorem ss_kil {r : List Stmt} {i : Nat} {g} (h2 : PSs C.X r (tS C g)) :
    PSs C.X r (tS C fun ρ h => (Rz.ok (Fl.nx (ρ.set i none)) (match slot ρ i with
      | some (.ref n) => h.set n .dead
      | _ => h)).bnd fun f h => match f with
      | .nx ρ => g ρ h
      | f => .ok f h) :=
  h2.imp fun D σ H ⟨φ, ρ, h, rl, p⟩ => ⟨φ, _, _, rl.kil i, p⟩
theorem notComp_sw {e : Expr} {t : Option Expr} {l : Nat} {env : Env} (h : (match e with | .ListComp .. => false | .SetComp .. => false | .DictComp .. => false | _ => true) = true) : swapsWith e t l env = pure false := by
  cases e <;> first | rfl | cases h
/-- not a tuple: no stores are exchanged -/
theorem notTup_sw {e : Expr} {tg : Expr} {env : Env} (h : (match e with | .Tuple .. => false | _ => true) = true) : swappedStores [tg] e env = pure none := by
  cases e <;> first | (cases tg <;> rfl) | cases h
theorem notTup_sw2 {e : Expr} {tg : Expr} {env : Env} (h : (match tg with | .Tuple .. => false | .List .. => false | _ => true) = true) : swappedStores [tg] e env = pure none := by
  cases tg <;> first | (cases e <;> rfl) | cases h
theorem ss_asg {tg e : Expr} {pos : Pos} {ws f g} (hs : isStar tg = false) (he : PE C.X e (tE C f)) (hg : PG C.X tg (tG C ws g)) (h1 : swapsWith e (some tg) pos.line C.X.env = pure false) (h2 : swappedStores [tg] e C.X.env = pure none) :
    PS C.X (.Assign [tg] e pos) (tS C fun ρ h => (f ρ h).bnd fun v h => (g v ρ h).bnd fun ρ h => .ok (.nx ρ) h) := by
  refine (ps_asg he hg h1 h2 (by rw [assignEach_cons hs]; rfl)).imp fun D σ H ⟨φ, ρ, h, rl, p⟩ => ?_
  refine tE.mk rl (p.bnd.po.imp fun x φ1 h1 H1 s1 hr1 p1 V v rl1 => ?_)
  exact ⟨φ1, ρ, h1, x, rl1, v, p1.bnd.imp fun ρ2 φ2 h2 H2 s2 p2 σ2 rl2 _ => p2 φ2 H2 Stp.refl σ2 rl2⟩
theorem ss_if {c : Expr} {a b : List Stmt} {pos : Pos} {t f g} (hc : PT C.X c (tT C t)) (ha : PSs C.X a (tS C f)) (hb : PSs C.X b (tS C g)) :
    PS C.X (.If c a b pos) (tS C fun ρ h => (t ρ h).bnd fun k h => if k = true then f ρ h else g ρ h) := by
  refine (ps_if hc ha hb).imp fun D σ H ⟨φ, ρ, h, rl, p⟩ => ?_
  refine tT.mk rl (p.bnd.po.imp fun x φ1 h1 H1 s1 hr1 p1 rl1 => ?_)
  cases x with
  | true => exact iteT ⟨φ1, ρ, h1, rl1, p1⟩
  | false => exact iteF ⟨φ1, ρ, h1, rl1, p1⟩
theorem rt_ok {F : Cfg} {D : Ends} {φ σ H h ρ x V} (fl : C.flag = true → F.flag = true ∧ F.capd = C.capd) (rl : Rl C φ h ρ σ H) (v : VR C.Γ φ H (C.W σ H) x V) (p : PoG C φ H (retS F x h) (PoF C D)) : D.rt V H := by
  unfold retS at p
  split at p
  · obtain ⟨c, p⟩ := p.if_
    exact p φ H Stp.refl (rl.hr.kill) V (VR.noClo x V c v)
  · rename_i hf
    have hc : C.flag = false := by
      cases e : C.flag with
      | false => rfl
      | true => exact absurd (fl e).1 hf
    exact p φ H Stp.refl (rl.hr.w (Ct.w_off hc)) V (v.w (Ct.w_off hc))
theorem ss_ret {F : Cfg} {e : Expr} {pos : Pos} {f} (fl : C.flag = true → F.flag = true ∧ F.capd = C.capd) (he : PE C.X e (tE C f)) : PS C.X (.Return (some e) pos) (tS C fun ρ h => (f ρ h).bnd fun v h => retS F v h) := by
  refine (ps_ret he).imp fun D σ H ⟨φ, ρ, h, rl, p⟩ => ?_
  exact tE.mk rl (p.bnd.po.imp fun x φ1 h1 H1 s1 hr1 p1 V v rl1 => rt_ok fl rl1 v p1)
theorem ss_retN {F : Cfg} {pos : Pos} (fl : C.flag = true → F.flag = true ∧ F.capd = C.capd) : PS C.X (.Return none pos) (tS C fun _ h => retS F .non h) :=
  ps_retN.imp fun D σ H ⟨φ, ρ, h, rl, p⟩ => rt_ok (x := .non) (V := .non) fl rl (show VR C.Γ φ H (C.W σ H) .non .non from rfl) p
theorem ss_xpr {e : Expr} {pos : Pos} {f} (hs : swapsWith e none pos.line C.X.env = pure false) (he : PE C.X e (tE C f)) : PS C.X (.Expr e pos) (tS C fun ρ h => (f ρ h).bnd fun _ h => .ok (.nx ρ) h) := by
  refine (ps_expr he hs).imp fun D σ H ⟨φ, ρ, h, rl, p⟩ => ?_
  exact tE.mk rl (p.bnd.po.imp fun x φ1 h1 H1 s1 hr1 p1 V v rl1 => p1 φ1 H1 Stp.refl σ rl1)
theorem ss_pas {pos : Pos} : PS C.X (.Pass pos) (tS C fun ρ h => .ok (.nx ρ) h) := ps_pass.imp fun D σ H ⟨φ, ρ, h, rl, p⟩ => p φ H Stp.refl σ rl
theorem ss_brk {pos : Pos} : PS C.X (.Break pos) (tS C fun ρ h => .ok (.bk ρ) h) := ps_break.imp fun D σ H ⟨φ, ρ, h, rl, p⟩ => p φ H Stp.refl σ rl
theorem ss_cnt {pos : Pos} : PS C.X (.Continue pos) (tS C fun ρ h => .ok (.ct ρ) h) := ps_continue.imp fun D σ H ⟨φ, ρ, h, rl, p⟩ => p φ H Stp.refl σ rl
theorem pa_one {e : Expr} {f} (hs : isStar e = false) (he : PE C.X e (tE C f)) : PA C.X [e] (tCons (tE C f) tNil) := pa_cons he pa_nil (starEach_cons hs)
theorem nostar1 {e : Expr} {pos : Pos} {env : Env} (hs : isStar e = false) : ((backTo pos (starEach (e :: []) env)).all (fun x => !x.1) && (backToKw pos (keywordEach [] env)).all (fun x => x.1.isSome)
      && decide ((e :: []).length + ([] : List Keyword).length + (if ([] : List Keyword).isEmpty then 0 else 1) < 30)) = true := by
  rw [starEach_cons hs]; rfl
theorem ss_app {l e : Expr} {p pos pos' : Pos} {f g} (hK : C.X.K = C.Γ.K) (hs : isStar e = false) (hl : PE C.X l (tE C f)) (he : PE C.X e (tE C g)) (hb : attributeBase l "append" C.X.env (eval l C.X.env) = eval l C.X.env) (hln : (p.endLine == pos.line) = true) :
    PS C.X (.Expr (.Call (.Attribute l "append" p) [e] [] pos) pos') (tS C fun ρ h => (f ρ h).bnd fun x h => match x with
    | .ref n => match isFl h n with
      | some _ => (g ρ h).bnd fun y h => match isFl h n with
        | some xs => if xs.length < sizeLine then .ok (.nx ρ) (h.set n (.lst false (xs ++ [y]))) else .err
        | none => .err
      | none => .err
    | _ => .err) := by
  have pe := pe_bm (X := C.X) PySem.F.plainAttrs_list PySem.F.slot_list_append PySem.F.type_list_append mt_append hl (pa_one hs he) hb (nostar1 hs) hln (starEach_cons hs) rfl
  refine (ps_expr pe).imp fun D σ H ⟨φ, ρ, h, rl, p⟩ => ?_
  refine tE.mk rl (p.bnd.po.imp fun x φ1 h1 H1 s1 hr1 p1 V1 v1 rl1 => ?_)
  cases x with
  | ref n =>
    dsimp only at p1
    cases e1 : isFl h1 n with
    | none => rw [e1] at p1; exact p1.elim
    | some xs =>
      rw [e1] at p1
      obtain ⟨a, vs, rfl, ea, eh, eH, vr⟩ := hr1.isFl e1 v1
      refine ⟨.inl ⟨rfl, vs, .of eH⟩, tE.mk rl1 ((show PoG C φ1 H1 ((g ρ h1).bnd _) _ from p1).bnd.po.imp fun y φ2 h2 H2 s2 hr2 p2 V2 v2 rl2 => ?_)⟩
      cases e2 : isFl h2 n with
      | none => rw [e2] at p2; exact p2.elim
      | some ys =>
        rw [e2] at p2
        obtain ⟨c, p2⟩ := (show PoG C φ2 H2 (if ys.length < sizeLine then _ else _) _ from p2).if_
        obtain ⟨a', us, q, ea2, eh2, eH2, vr2⟩ := hr2.isFl e2 (VR.mono s2 (Ct.wm s2) _ _ v1)
        cases q
        have q := VRs.app vr2 (VRs.cons' v2 (show VRs C.Γ φ2 H2 (C.W σ H2) [] [] from rfl))
        have s3 : Stp φ2 φ2 H2 (upd H2 a (.lst (us ++ [V2]))) := (hr2.write ea2 eh2 q (fun _ _ z => z)).1
        have hr3 := (hr2.write ea2 eh2 q (Ct.wm (C := C) (σ := σ) s3)).2
        exact ⟨a, us, V2, rfl, rfl, eH2, by rw [vr2.len]; exact c, p2 φ2 _ s3 σ (rl2.on s3 hr3)⟩
  | _ => exact p1.elim
theorem ss_ext {l e : Expr} {p pos pos' : Pos} {f g} (hK : C.X.K = C.Γ.K) (hs : isStar e = false) (hl : PE C.X l (tE C f)) (he : PE C.X e (tE C g)) (hb : attributeBase l "extend" C.X.env (eval l C.X.env) = eval l C.X.env) (hln : (p.endLine == pos.line) = true) :
    PS C.X (.Expr (.Call (.Attribute l "extend" p) [e] [] pos) pos') (tS C fun ρ h => (f ρ h).bnd fun x h => match x with
    | .ref n => match isFl h n with
      | some _ => (g ρ h).bnd fun y h => match y with
        | .ref m => match isFl h n, isFl h m with
          | some xs, some ys => if xs.length + ys.length ≤ sizeLine then .ok (.nx ρ) (h.set n (.lst false (xs ++ ys))) else .err
          | _, _ => .err
        | _ => .err
      | none => .err
    | _ => .err) := by
  have pe := pe_bm (X := C.X) PySem.F.plainAttrs_list PySem.F.slot_list_extend PySem.F.type_list_extend mt_extend hl (pa_one hs he) hb (nostar1 hs) hln (starEach_cons hs) rfl
  refine (ps_expr pe).imp fun D σ H ⟨φ, ρ, h, rl, p⟩ => ?_
  refine tE.mk rl (p.bnd.po.imp fun x φ1 h1 H1 s1 hr1 p1 V1 v1 rl1 => ?_)
  cases x with
  | ref n =>
    dsimp only at p1
    cases e1 : isFl h1 n with
    | none => rw [e1] at p1; exact p1.elim
    | some xs =>
      rw [e1] at p1
      obtain ⟨a, vs, rfl, ea, eh, eH, vr⟩ := hr1.isFl e1 v1
      refine ⟨.inl ⟨rfl, vs, .of eH⟩, tE.mk rl1 ((show PoG C φ1 H1 ((g ρ h1).bnd _) _ from p1).bnd.po.imp fun y φ2 h2 H2 s2 hr2 p2 V2 v2 rl2 => ?_)⟩
      cases y with
      | ref m =>
        dsimp only at p2
        cases e2 : isFl h2 n with
        | none => rw [e2] at p2; exact p2.elim
        | some ys =>
          cases e3 : isFl h2 m with
          | none => rw [e2, e3] at p2; exact p2.elim
          | some zs =>
            rw [e2, e3] at p2
            obtain ⟨c, p2⟩ := (show PoG C φ2 H2 (if ys.length + zs.length ≤ sizeLine then _ else _) _ from p2).if_
            obtain ⟨a', us, q, ea2, eh2, eH2, vr2⟩ := hr2.isFl e2 (VR.mono s2 (Ct.wm s2) _ _ v1)
            cases q
            obtain ⟨b, ws, rfl, ea3, eh3, eH3, vr3⟩ := hr2.isFl e3 v2
            have q := VRs.app vr2 vr3
            have s3 : Stp φ2 φ2 H2 (upd H2 a (.lst (us ++ ws))) := (hr2.write ea2 eh2 q (fun _ _ z => z)).1
            have hr3 := (hr2.write ea2 eh2 q (Ct.wm (C := C) (σ := σ) s3)).2
            exact ⟨a, b, us, ws, rfl, rfl, eH2, eH3, by rw [vr2.len, vr3.len]; exact c, p2 φ2 _ s3 σ (rl2.on s3 hr3)⟩
      | _ => exact p2.elim
  | _ => exact p1.elim
end
end EV
set_option linter.all false
set_option maxRecDepth 100000
set_option maxHeartbeats 1000000
/-! Ev9: loops, ranges, comprehensions. -/
namespace EV
open PySem PySem.Spec PyProof.Rows L2
section
variable {C : Ct}
theorem ss_whl {c : Expr} {b : List Stmt} {pos : Pos} {t f} {wf : Nat} (hp : PassesOwn (model C.X.prog C.X.w) C.X.A C.X.env C.X.xe) (hc : PT C.X c (tT C t)) (hb : PSs C.X b (tS C f)) :
    PS C.X (.While c b [] pos) (tS C fun ρ h => whileL t f wf ρ h) := by
  refine (ps_while hp hc hb).imp fun D σ H ⟨φ, ρ, h, rl, p⟩ => ?_
  refine ⟨fun m σ H => ∃ φ ρ h, Rl C φ h ρ σ H ∧ PoG C φ H (whileL t f m ρ h) (PoF C D), ⟨wf, φ, ρ, h, rl, p⟩, fun m σ H ⟨φ, ρ, h, rl, p⟩ => ?_⟩
  cases m with
  | zero => exact p.elim
  | succ n =>
    refine tT.mk rl ((show PoG C φ H ((t ρ h).bnd _) _ from p).bnd.po.imp fun k φ1 h1 H1 s1 hr1 p1 rl1 => ?_)
    cases k with
    | false => exact iteF (p1 φ1 H1 Stp.refl σ rl1)
    | true =>
      refine iteT ⟨fun σ H => ∃ φ ρ h, Rl C φ h ρ σ H ∧ PoG C φ H (whileL t f n ρ h) (PoF C D), fun σ' H' z => ⟨n, Nat.lt_succ_self _, z⟩, φ1, ρ, h1, rl1, ?_⟩
      refine (show PoG C φ1 H1 ((f ρ h1).bnd _) _ from p1).bnd.imp fun fl φ2 h2 H2 s2 p2 => ?_
      cases fl with
      | nx ρ2 => exact fun σ2 rl2 => ⟨φ2, ρ2, h2, rl2, p2⟩
      | ct ρ2 => exact fun σ2 rl2 => ⟨φ2, ρ2, h2, rl2, p2⟩
      | bk ρ2 => exact p2 φ2 H2 Stp.refl
      | rt v => exact p2 φ2 H2 Stp.refl

/-! ### what is walked -/
def JR (Γ : Gm) (φ : List Addr) (H : Hp) (W : Cw) (it : EV.It) (J : L2.It) : Prop := match it with
  | .fix xs => ∃ p vs, J = Itt Γ.K p ∧ SqT Γ.K H p vs ∧ VRs Γ φ H W xs vs
  | .ref n => ∃ a, J = Itl Γ.K a ∧ φ[n]? = some a
  | .rng lo n => J = Itr lo n
theorem JR.mono {Γ φ φ' H H' W W' it J} (s : Stp φ φ' H H') (w : ∀ c v, W c v → W' c v) (j : JR Γ φ H W it J) : JR Γ φ' H' W' it J := by
  cases it with
  | fix xs =>
    obtain ⟨p, vs, e, st, v⟩ := j
    exact ⟨p, vs, e, s.sqT st, VRs.mono s w _ _ v⟩
  | ref n =>
    obtain ⟨a, e, q⟩ := j
    exact ⟨a, e, s.pre _ _ q⟩
  | rng lo n => exact j
def tI (C : Ct) (f : En → Hh → Rz EV.It) : TI := fun σ H R => ∃ φ ρ h, Rl C φ h ρ σ H ∧ Po C φ σ H (f ρ h) fun it φ' h' H' => ∀ J, JR C.Γ φ' H' (C.W σ H') it J → (∀ n, it = .ref n → ∃ xs, getL h' n = some xs) → R J H'
/-- a value, walked -/
def ofI (f : En → Hh → Rz PV) : En → Hh → Rz EV.It := fun ρ h => (f ρ h).bnd fun v h => match v with
  | .tup xs => .ok (.fix xs) h
  | .ref n => match getL h n with
    | some _ => .ok (.ref n) h
    | none => .err
  | _ => .err
theorem tE.of {C : Ct} {f σ H φ ρ h x h1} {Q : L2.V → Hp → Prop} (rl : Rl C φ h ρ σ H) (e : f ρ h = .ok x h1) (q : ∀ φ' H' V, Stp φ φ' H H' → HR C.Γ φ' H' (C.W σ H') h1 → VR C.Γ φ' H' (C.W σ H') x V → Q V H') : tE C f σ H Q :=
  ⟨φ, ρ, h, rl, by rw [e]; exact fun φ' H' s hr V v => q φ' H' V s hr v⟩
theorem si_val {tg e : Expr} {f} (hK : C.X.K = C.Γ.K) (he : PE C.X e (tE C f)) : PI C.X tg e (tI C (ofI f)) := by
  refine ⟨fun pins s σ H R I ⟨φ, ρ, h, rl, po⟩ => ?_⟩
  unfold ofI at po
  cases e : f ρ h with
  | ok x h1 =>
    rw [e] at po
    cases x with
    | tup xs =>
      refine (pi_tup he).run pins s σ H R I (tE.of rl e fun φ' H' V s' hr v => ?_)
      obtain ⟨p, vs, rfl, st, vr⟩ := vr_tup v
      rw [hK]
      exact ⟨p, rfl, ⟨vs, st⟩, (show Po C φ σ H (.ok (EV.It.fix xs) h1) _ from po) φ' H' s' hr _ ⟨p, vs, rfl, st, vr⟩ fun n z => nomatch z⟩
    | ref n =>
      refine (pi_list he).run pins s σ H R I (tE.of rl e fun φ' H' V s' hr v => ?_)
      rw [hK]
      have po : Po C φ σ H (match getL h1 n with
        | some _ => Rz.ok (EV.It.ref n) h1
        | none => .err) _ := po
      cases e2 : getL h1 n with
      | none => rw [e2] at po; exact po.elim
      | some xs =>
        rw [e2] at po
        obtain ⟨a, vs, rfl, st, vr⟩ := hr.getL e2 v
        simp only [VR] at v
        obtain ⟨b, eb, z⟩ := v
        cases z
        exact ⟨a, rfl, ⟨vs, st⟩, po φ' H' s' hr _ ⟨a, rfl, eb⟩ fun n' z => by cases z; exact ⟨xs, e2⟩⟩
    | _ => exact po.elim
  | ex c v h1 =>
    rw [e] at po
    exact (pi_tup he).run pins s σ H R I ⟨φ, ρ, h, rl, by rw [e]; exact po⟩
  | err =>
    rw [e] at po
    exact po.elim
theorem si_rng1 {tg a : Expr} {p pos : Pos} {f} (hg : Gl C.X "range") (hm : C.X.mg "range" = none) (hs : isStar a = false) (ha : PE C.X a (tE C f)) :
    PI C.X tg (.Call (.Name "range" p) [a] [] pos) (tI C fun ρ h => (f ρ h).bnd fun x h => match x with
      | .int n => if n.natAbs ≤ 1000000 then .ok (.rng 0 n.toNat) h else .err
      | _ => .err) := by
  refine ⟨fun pins s σ H R I ⟨φ, ρ, h, rl, po⟩ => ?_⟩
  refine (pi_range1 hg hm (pa_one hs ha) (starEach_cons hs)).run pins s σ H R I ?_
  refine tE.mk rl (po.bnd.imp fun x φ1 h1 H1 s1 hr1 p1 V v rl1 => ?_)
  cases x with
  | int n =>
    obtain rfl := vr_int v
    obtain ⟨c, p1⟩ := Po.if_ (show Po C φ1 σ H1 (if n.natAbs ≤ 1000000 then _ else _) _ from p1)
    exact ⟨n, rfl, by omega, by omega, p1.ok' hr1 _ rfl fun n z => nomatch z⟩
  | _ => exact p1.elim
theorem si_rng2 {tg a b : Expr} {p pos : Pos} {f g} (hg : Gl C.X "range") (hm : C.X.mg "range" = none) (hs : isStar a = false) (hs2 : isStar b = false) (ha : PE C.X a (tE C f)) (hb : PE C.X b (tE C g)) :
    PI C.X tg (.Call (.Name "range" p) [a, b] [] pos) (tI C fun ρ h => (f ρ h).bnd fun x h => (g ρ h).bnd fun y h => match x, y with
      | .int l, .int n => if l.natAbs ≤ 1000000 ∧ n.natAbs ≤ 1000000 then .ok (.rng l (n - l).toNat) h else .err
      | _, _ => .err) := by
  refine ⟨fun pins s σ H R I ⟨φ, ρ, h, rl, po⟩ => ?_⟩
  refine (pi_range2 hg hm (pa_cons ha (pa_one hs2 hb) (starEach_cons hs)) (by rw [starEach_cons hs, starEach_cons hs2]; rfl) (by rw [starEach_cons hs2]; rfl)).run pins s σ H R I ?_
  refine tE.mk rl (po.bnd.imp fun x φ1 h1 H1 s1 hr1 p1 V v rl1 => ?_)
  refine tE.mk rl1 (p1.bnd.imp fun y φ2 h2 H2 s2 hr2 p2 U u rl2 => ?_)
  cases x with
  | int l =>
    cases y with
    | int n =>
      obtain rfl := vr_int v
      obtain rfl := vr_int u
      obtain ⟨c, p2⟩ := Po.if_ (show Po C φ2 σ H2 (if l.natAbs ≤ 1000000 ∧ n.natAbs ≤ 1000000 then _ else _) _ from p2)
      exact ⟨l, n, rfl, ⟨by omega, by omega, by omega, by omega⟩, p2.ok' hr2 _ rfl fun n z => nomatch z⟩
    | _ => exact p2.elim
  | _ => cases y <;> exact p2.elim

/-- what a turn finds -/
theorem item_ok {Γ φ H W h it J k} (hr : HR Γ φ H W h) (j : JR Γ φ H W it J) : match itemAt it k h with
    | none => True
    | some none => J.stop k H
    | some (some x) => J.go k H ∧ ∀ V H', J.yld k H V H' → H' = H ∧ VR Γ φ H W x V := by
  cases it with
  | fix xs =>
    obtain ⟨p, vs, rfl, st, v⟩ := j
    show match some xs[k]? with
      | none => True
      | some none => _
      | some (some x) => _
    cases e : xs[k]? with
    | none =>
      refine ⟨vs, st, ?_⟩
      rw [v.len]
      exact List.getElem?_eq_none_iff.mp e
    | some x =>
      obtain ⟨V, e1, z⟩ := v.get e
      exact ⟨⟨vs, V, st, e1⟩, fun U H' ⟨q1, q2⟩ => ⟨q1, by
        have := q2 vs st
        rw [e1] at this; cases this
        exact z⟩⟩
  | ref n =>
    obtain ⟨a, rfl, ea⟩ := j
    show match (match getL h n with
      | some xs => some xs[k]?
      | none => none) with
      | none => True
      | some none => _
      | some (some x) => _
    cases e0 : getL h n with
    | none => trivial
    | some xs =>
      obtain ⟨b, vs, q, st, v⟩ := hr.getL e0 (V := .ref a) (by simp only [VR]; exact ⟨a, ea, rfl⟩)
      cases q
      dsimp only
      cases e : xs[k]? with
      | none =>
        refine ⟨vs, st, ?_⟩
        rw [v.len]
        exact List.getElem?_eq_none_iff.mp e
      | some x =>
        obtain ⟨V, e1, z⟩ := v.get e
        exact ⟨⟨vs, V, st, e1⟩, fun U H' ⟨q1, q2⟩ => ⟨q1, by
          have := q2 vs st
          rw [e1] at this; cases this
          exact z⟩⟩
  | rng lo n =>
    obtain rfl : J = Itr lo n := j
    show match some (if k < n then some (PV.int (lo + k)) else none) with
      | none => True
      | some none => _
      | some (some x) => _
    by_cases c : k < n
    · rw [if_pos c]
      exact ⟨c, fun U H' ⟨q1, q2⟩ => ⟨q1, q2⟩⟩
    · rw [if_neg c]
      exact Nat.not_lt.mp c
theorem JR.sw {φ H σ σ' it J} (c : C.flag = true → it.noClo = true) (j : JR C.Γ φ H (C.W σ H) it J) : JR C.Γ φ H (C.W σ' H) it J := by
  cases it with
  | fix xs =>
    obtain ⟨p, vs, e, st, v⟩ := j
    refine ⟨p, vs, e, st, ?_⟩
    cases hf : C.flag with
    | false => exact v.w fun c u z => Ct.w_on c u (Ct.w_off hf c u z)
    | true => exact VRs.noClo _ _ (c hf) v
  | ref n => exact j
  | rng lo n => exact j
theorem ss_for {F : Cfg} {tg it : Expr} {b : List Stmt} {pos : Pos} {i g f ws} {wf : Nat} (fl : C.flag = true → F.flag = true ∧ F.capd = C.capd) (hp : PassesOwn (model C.X.prog C.X.w) C.X.A C.X.env C.X.xe) (hc : C.X.calm = true) (hi : PI C.X tg it (tI C i)) (hg : PG C.X tg (tG C ws g)) (hb : PSs C.X b (tS C f))
    (hs : ∀ x, foldedSetIterable it C.X.env x = pure x) :
    PS C.X (.For tg it b [] pos) (tS C fun ρ h => (i ρ h).bnd fun it h => if (!F.flag || it.noClo) = true then forL g f it wf 0 ρ h else .err) := by
  refine (ps_for hp hc hi hg hb hs).imp fun D σ H ⟨φ, ρ, h, rl, p⟩ => ?_
  refine ⟨φ, ρ, h, rl, p.bnd.po.imp fun it φ1 h1 H1 s1 hr1 p1 J j _ => ?_⟩
  obtain ⟨c, p1⟩ := p1.if_
  have nc : C.flag = true → it.noClo = true := fun hf => by
    rw [(fl hf).1] at c
    simpa using c
  refine ⟨fun k m σ H => ∃ φ ρ h, Rl C φ h ρ σ H ∧ JR C.Γ φ H (C.W σ H) it J ∧ PoG C φ H (forL g f it m k ρ h) (PoF C D), ⟨wf, φ1, ρ, h1, rl.on s1 hr1, j, p1⟩, fun k m σ H ⟨φ, ρ, h, rl, j, p⟩ => ?_⟩
  cases m with
  | zero => exact p.elim
  | succ n =>
    have q := item_ok (k := k) rl.hr j
    unfold forL at p
    cases e : itemAt it k h with
    | none => rw [e] at p; exact p.elim
    | some o =>
      rw [e] at p q
      cases o with
      | none => exact .inl ⟨q, p φ H Stp.refl σ rl⟩
      | some v =>
        dsimp only at p q
        refine .inr ⟨q.1, fun σ H => ∃ φ ρ h, Rl C φ h ρ σ H ∧ JR C.Γ φ H (C.W σ H) it J ∧ PoG C φ H (forL g f it n (k + 1) ρ h) (PoF C D), fun σ' H' z => ⟨n, Nat.lt_succ_self _, z⟩, fun V H' y => ?_⟩
        obtain ⟨rfl, vr⟩ := q.2 V H' y
        refine ⟨φ, ρ, h, v, rl, vr, p.bnd.imp fun ρ2 φ2 h2 H2 s2 p2 σ2 rl2 _ => ⟨φ2, ρ2, h2, rl2, p2.bnd.imp fun fl3 φ3 h3 H3 s3 p3 => ?_⟩⟩
        have j3 : ∀ σ', JR C.Γ φ3 H3 (C.W σ' H3) it J := fun σ' => (j.mono (s2.trans s3) (Ct.wm (s2.trans s3))).sw nc
        cases fl3 with
        | nx ρ3 => exact fun σ3 rl3 => ⟨φ3, ρ3, h3, rl3, j3 σ3, p3⟩
        | ct ρ3 => exact fun σ3 rl3 => ⟨φ3, ρ3, h3, rl3, j3 σ3, p3⟩
        | bk ρ3 => exact p3 φ3 H3 Stp.refl
        | rt v => exact p3 φ3 H3 Stp.refl

/-! ### comprehensions -/
theorem Rl.sw {C C' : Ct} {φ h ρ σ H} (g : C'.Γ = C.Γ) (w : ∀ c v, C.W σ H c v → C'.W σ H c v) (r : Rl C φ h ρ σ H) : Rl C' φ h ρ σ H := by
  refine ⟨?_, ?_⟩
  · rw [g]; exact r.hr.w w
  · rw [g]; exact r.re.mono Stp.refl w
/-- the block's context -/
abbrev Ct.blk (C : Ct) (X : Cx) : Ct := ⟨C.Γ, X, false, [], fun _ _ _ => False⟩
theorem blkW {C : Ct} {X X' : Cx} {σ H} : ∀ c v, (C.blk X).W σ H c v → (C.blk X').W σ H c v := fun c v z => .inl (Ct.w_off rfl c v z)
theorem blk_sw {C : Ct} {X X' : Cx} {φ h ρ σ H} (r : Rl (C.blk X) φ h ρ σ H) : Rl (C.blk X') φ h ρ σ H := Rl.sw (C := C.blk X) (C' := C.blk X') rfl blkW r
theorem blkG {C : Ct} {X X' : Cx} {ws f V σ H Q} (t : tG (C.blk X) ws f V σ H Q) : tG (C.blk X') ws f V σ H Q := by
  obtain ⟨φ, ρ, h, v, rl, vr, p⟩ := t
  exact ⟨φ, ρ, h, v, blk_sw rl, vr.w blkW, PoG.imp (C := C.blk X') (show PoG (C.blk X') φ H (f v ρ h) _ from p) fun a φ' h' H' s q σ' rl' => q σ' (blk_sw rl')⟩
theorem blkPo {α : Type} {C : Ct} {X X' : Cx} {φ σ H} {r : Rz α} {k} (p : Po (C.blk X) φ σ H r k) : Po (C.blk X') φ σ H r k := by
  cases r with
  | ok a h => exact fun φ' H' s hr => p φ' H' s (hr.w blkW)
  | ex c v h => exact p
  | err => exact p
theorem blkE {C : Ct} {X X' : Cx} {f σ H Q} (t : tE (C.blk X) f σ H Q) : tE (C.blk X') f σ H Q := by
  obtain ⟨φ, ρ, h, rl, p⟩ := t
  exact ⟨φ, ρ, h, blk_sw rl, (blkPo (X' := X') p).imp fun a φ' h' H' s hr q V v => q V (v.w blkW)⟩
theorem blkT {C : Ct} {X X' : Cx} {f σ H Q} (t : tT (C.blk X) f σ H Q) : tT (C.blk X') f σ H Q := by
  obtain ⟨φ, ρ, h, rl, p⟩ := t
  exact ⟨φ, ρ, h, blk_sw rl, blkPo (X' := X') p⟩
theorem _root_.L2.PG.imp {X : Cx} {e : Expr} {t t' : TG} (h : PG X e t) (i : ∀ V σ H Q, t' V σ H Q → t V σ H Q) : PG X e t' := ⟨fun pins s σ H v u Q I r q => h.run pins s σ H v u Q I r (i v σ H Q q)⟩
theorem _root_.L2.PTs.imp {X : Cx} {e : List Expr} {t t' : TT} (h : PTs X e t) (i : ∀ σ H Q, t' σ H Q → t σ H Q) : PTs X e t' := ⟨fun pins s σ H Q I q => h.run pins s σ H Q I (i σ H Q q)⟩
/-- no error leaves: what follows is asked of any context -/
theorem PoG.nox {α : Type} {C : Ct} {φ H} {r : Rz α} {k} {X : Cx} (p : PoG C φ H r.nox k) : PoG (C.blk X) φ H r k := by
  cases r with
  | ok a h => exact p
  | ex c v h => exact p.elim
  | err => exact p
theorem RE.wipe {Γ φ H W ρ σ} (r : RE Γ φ H W ρ σ) : ∀ vs : List Nat, RE Γ φ H W (wipeE ρ vs) (wipe σ vs)
  | [] => r
  | v :: vs => ⟨fun i x e => by
    unfold wipeE at e
    unfold L2.wipe
    by_cases hi : v = i
    · subst hi
      by_cases hl : v < (wipeE ρ vs).length
      · rw [List.getElem?_set_self hl] at e; cases e
      · rw [List.getElem?_eq_none (by rw [List.length_set]; omega)] at e; cases e
    · rw [List.getElem?_set_ne hi] at e
      obtain ⟨u, e1, z⟩ := (RE.wipe r vs).get i x e
      exact ⟨u, by rw [List.getElem?_set_ne hi]; exact e1, z⟩⟩
theorem wipe_key : ∀ (vs : List Nat) (σ : L2.St) (i : Nat), (wipe σ vs)[i]? = if i ∈ vs ∧ i < σ.length then some none else σ[i]? := by
  intro vs
  induction vs with
  | nil => intro σ i; simp [wipe]
  | cons v r ih =>
    intro σ i
    unfold wipe
    by_cases hv : v = i
    · subst hv
      by_cases hl : v < σ.length
      · rw [List.getElem?_set_self (by rw [wipe_length]; exact hl), if_pos ⟨List.mem_cons_self, hl⟩]
      · rw [List.getElem?_eq_none (by rw [List.length_set, wipe_length]; omega), if_neg (fun z => hl z.2), List.getElem?_eq_none (by omega)]
    · rw [List.getElem?_set_ne hv, ih]
      have e : (i ∈ r ∧ i < σ.length) ↔ (i ∈ v :: r ∧ i < σ.length) := by
        rw [List.mem_cons]
        exact ⟨fun z => ⟨.inr z.1, z.2⟩, fun z => ⟨z.1.elim (fun q => absurd q.symm hv) id, z.2⟩⟩
      by_cases c : i ∈ r ∧ i < σ.length
      · rw [if_pos c, if_pos (e.mp c)]
      · rw [if_neg c, if_neg fun z => c (e.mpr z)]
theorem wipe_agr {vs ws : List Nat} {σ σ' : L2.St} (a : Agr ws (wipe σ vs) σ') (h : ∀ i, i ∈ ws → i ∈ vs) : wipe σ' vs = wipe σ vs := by
  have l : σ'.length = σ.length := by rw [a.1, wipe_length]
  refine List.ext_getElem? fun i => ?_
  rw [wipe_key, wipe_key, l]
  by_cases hi : i ∈ vs ∧ i < σ.length
  · rw [if_pos hi, if_pos hi]
  · rw [if_neg hi, if_neg hi]
    by_cases hm : i ∈ vs
    · have hl : ¬ i < σ.length := fun z => hi ⟨hm, z⟩
      rw [List.getElem?_eq_none (by omega), List.getElem?_eq_none (by omega)]
    · rw [a.2 i fun z => hm (h i z), wipe_key, if_neg hi]
theorem Po.noxB {C : Ct} {φ σ H} {r : Rz PV} {K} {X : Cx} (p : Po C φ σ H r.nox K) : PoG (C.blk X) φ H r (fun v φ' h' H' => HR C.Γ φ' H' (Trk H') h' → K v φ' h' H') := by
  cases r with
  | ok a h => exact fun φ' H' s hr => p φ' H' s (hr.w Ct.w_on)
  | ex c v h => exact p.elim
  | err => exact p.elim
theorem JR.off {φ H σ it J} (c : C.flag = true → it.noClo = true) (j : JR C.Γ φ H (C.W σ H) it J) : JR C.Γ φ H (Trk H) it J := by
  cases it with
  | fix xs =>
    obtain ⟨p, vs, e, st, v⟩ := j
    refine ⟨p, vs, e, st, ?_⟩
    cases hf : C.flag with
    | false => exact v.w fun c u z => Ct.w_off hf c u z
    | true => exact VRs.noClo _ _ (c hf) v
  | ref n => exact j
  | rng lo n => exact j
theorem killH_len {h : Hh} : (killH h).length = h.length := by unfold killH; rw [List.length_map]
theorem se_lc {F : Cfg} {elt tg iter : Expr} {ifs : List Expr} {scope : Scope} {own : List (Str × Nat)} {i g t f ws} {wf : Nat} (fl : C.flag = true → F.flag = true ∧ F.capd = C.capd) (hc : C.X.calm = true) (nd : C.X.N.Nodup)
    (hi : PI C.X tg iter (tI C i)) (ok : BlkOk C.X.N C.X.env.scope scope own) (hw : ∀ i, i ∈ ws → i ∈ own.map (·.2))
    (hg : ∀ (s : Shared) (H : Hp) (c : Addr) (cl : List (Str × Addr)) (fp : List Addr), PG (C.X.blk s H scope (compEnvC scope cl c C.X.env) fp) tg (tG (C.blk (C.X.blk s H scope (compEnvC scope cl c C.X.env) fp)) ws g))
    (ht : ∀ (s : Shared) (H : Hp) (c : Addr) (cl : List (Str × Addr)) (fp : List Addr), PTs (C.X.blk s H scope (compEnvC scope cl c C.X.env) fp) ifs (tT (C.blk (C.X.blk s H scope (compEnvC scope cl c C.X.env) fp)) t))
    (he : ∀ (s : Shared) (H : Hp) (c : Addr) (cl : List (Str × Addr)) (fp : List Addr), PE (C.X.blk s H scope (compEnvC scope cl c C.X.env) fp) elt (tE (C.blk (C.X.blk s H scope (compEnvC scope cl c C.X.env) fp)) f))
    (hs : ∀ x, foldedSetIterable iter C.X.env x = pure x) {σ H Q}
    (ti : tE C (fun ρ h => (i ρ h).bnd fun it h => if (!F.flag || it.noClo) = true then
      (compL g t f it (wipeE (if F.flag then killE ρ else ρ) (own.map (·.2))) h.length wf 0 ((if F.flag then killH h else h) ++ [.lst false []])).nox else .err) σ H Q) :
    tLc (tI C i) (tG (C.blk C.X) ws g) (tT (C.blk C.X) t) (tE (C.blk C.X) f) (own.map (·.2)) σ H Q := by
  obtain ⟨φ, ρ, h, rl, p⟩ := ti
  refine ⟨φ, ρ, h, rl, p.bnd.imp fun it φ1 h1 H1 s1 hr1 p1 J j _ D hD => ?_⟩
  obtain ⟨c, p1⟩ := p1.if_
  have nc : C.flag = true → it.noClo = true := fun hf => by
    rw [(fl hf).1] at c
    simpa using c
  have hrT : HR C.Γ φ1 H1 (Trk H1) (if F.flag = true then killH h1 else h1) := by
    by_cases hf : F.flag = true
    · rw [if_pos hf]; exact hr1.kill
    · rw [if_neg hf]
      refine hr1.w (Ct.w_off ?_)
      cases e : C.flag with
      | false => rfl
      | true => exact absurd (fl e).1 hf
  have reT : RE C.Γ φ1 H1 (Trk H1) (if F.flag = true then killE ρ else ρ) σ := by
    have r := rl.re.mono s1 (Ct.wm s1)
    by_cases hf : F.flag = true
    · rw [if_pos hf]; exact r.kill
    · rw [if_neg hf]
      refine r.mono Stp.refl (Ct.w_off ?_)
      cases e : C.flag with
      | false => rfl
      | true => exact absurd (fl e).1 hf
  have ln : (if F.flag = true then killH h1 else h1).length = h1.length := by
    split
    · exact killH_len
    · rfl
  generalize (if F.flag = true then killH h1 else h1) = h1k at p1 hrT ln
  generalize (if F.flag = true then killE ρ else ρ) = ρk at p1 reT
  have sD : Stp φ1 (φ1 ++ [D]) H1 (upd H1 D (.lst [])) := stp_add hD
  have tw : ∀ {φ φ' : List Addr} {H H' : Hp} (s : Stp φ φ' H H'), ∀ c v, Trk H c v → Trk H' c v := fun s c v z => z.mono s
  have hrD : HR C.Γ (φ1 ++ [D]) (upd H1 D (.lst [])) (Trk (upd H1 D (.lst []))) (h1k ++ [.lst false []]) := hrT.add hD (tw sD) ⟨[], upd_same, rfl⟩
  have pD : (φ1 ++ [D])[h1.length]? = some D := by rw [← hr1.len, List.getElem?_concat_length]
  have pb := (Po.noxB (X := C.X) (p1.step sD))
  refine ⟨fun k m H => ∃ φ h, HR C.Γ φ H (Trk H) h ∧ RE C.Γ φ H (Trk H) (wipeE ρk (own.map (·.2))) (wipe σ (own.map (·.2))) ∧ JR C.Γ φ H (Trk H) it J ∧ φ[h1.length]? = some D ∧
    PoG (C.blk C.X) φ H (compL g t f it (wipeE ρk (own.map (·.2))) h1.length m k h) (fun v φ' h' H' => HR C.Γ φ' H' (Trk H') h' → ∀ V, VR C.Γ φ' H' (C.W σ H') v V → Q V H'),
    ⟨wf, φ1 ++ [D], _, hrD, (reT.mono sD (tw sD)).wipe _, (j.off nc).mono sD (tw sD), pD, pb⟩, fun k m H ⟨φ, h, hr, re, j, pd, p⟩ => ?_⟩
  cases m with
  | zero => exact p.elim
  | succ n =>
    have q := item_ok (k := k) hr j
    unfold compL at p
    cases e : itemAt it k h with
    | none => rw [e] at p; exact p.elim
    | some o =>
      rw [e] at p q
      cases o with
      | none =>
        refine .inl ⟨q, p φ H Stp.refl hr (.ref D) ?_⟩
        simp only [VR]
        exact ⟨D, pd, rfl⟩
      | some v =>
        dsimp only at p q
        refine .inr ⟨q.1, fun H => ∃ φ h, HR C.Γ φ H (Trk H) h ∧ RE C.Γ φ H (Trk H) (wipeE ρk (own.map (·.2))) (wipe σ (own.map (·.2))) ∧ JR C.Γ φ H (Trk H) it J ∧ φ[h1.length]? = some D ∧
          PoG (C.blk C.X) φ H (compL g t f it (wipeE ρk (own.map (·.2))) h1.length n (k + 1) h) (fun v φ' h' H' => HR C.Γ φ' H' (Trk H') h' → ∀ V, VR C.Γ φ' H' (C.W σ H') v V → Q V H'),
          fun H' z => ⟨n, Nat.lt_succ_self _, z⟩, fun V H' y => ?_⟩
        obtain ⟨rfl, vr⟩ := q.2 V H' y
        have offB : ∀ {σ' : L2.St} {H : Hp}, ∀ c v, (C.blk C.X).W σ' H c v → Trk H c v := fun c v z => Ct.w_off rfl c v z
        refine ⟨φ, _, h, v, ⟨hr.w Ct.w_on, re.mono Stp.refl Ct.w_on⟩, vr.w Ct.w_on, p.bnd.imp fun ρ2 φ2 h2 H2 s2 p2 σ2 rl2 ag => ⟨wipe_agr ag hw, ?_⟩⟩
        refine tT.mk rl2 (p2.bnd.po.imp fun b φ3 h3 H3 s3 hr3 p3 rl3 => ?_)
        have s23 := s2.trans s3
        cases b with
        | false => exact iteF ⟨φ3, h3, hr3.w offB, re.mono s23 (tw s23), j.mono s23 (tw s23), s23.pre _ _ pd, p3⟩
        | true =>
          refine iteT (tE.mk rl3 ((show PoG (C.blk C.X) φ3 H3 ((f ρ2 h3).bnd _) _ from p3).bnd.po.imp fun y φ4 h4 H4 s4 hr4 p4 Y yr rl4 => ?_))
          have s24 := s23.trans s4
          cases e4 : isFl h4 h1.length with
          | none => rw [e4] at p4; exact p4.elim
          | some acc =>
            rw [e4] at p4
            obtain ⟨cc, p4⟩ := (show PoG (C.blk C.X) φ4 H4 (if acc.length < sizeLine then _ else _) _ from p4).if_
            obtain ⟨a, vs, q, ea, eh, eH, va⟩ := hr4.isFl e4 (V := .ref D) (by simp only [VR]; exact ⟨D, s24.pre _ _ pd, rfl⟩)
            cases q
            have va' := VRs.app va (VRs.cons' yr (show VRs C.Γ φ4 H4 ((C.blk C.X).W σ2 H4) [] [] from rfl))
            have s5 : Stp φ4 φ4 H4 (upd H4 D (.lst (vs ++ [Y]))) := (hr4.write ea eh va' (fun _ _ z => z)).1
            have hr5 := (hr4.write ea eh va' (W' := Trk (upd H4 D (.lst (vs ++ [Y])))) (fun c v z => (offB c v z).mono s5)).2
            have s25 := s24.trans s5
            exact ⟨vs, eH, by rw [va.len]; exact cc, φ4, _, hr5, re.mono s25 (tw s25), j.mono s25 (tw s25), s25.pre _ _ pd, p4.step s5⟩
/-- .. as a value -/
theorem se_lcE {F : Cfg} {elt tg iter : Expr} {ifs : List Expr} {scope : Scope} {own : List (Str × Nat)} {pos : Pos} {i g t f ws} {wf : Nat} (fl : C.flag = true → F.flag = true ∧ F.capd = C.capd) (hc : C.X.calm = true) (nd : C.X.N.Nodup)
    (hi : PI C.X tg iter (tI C i)) (ok : BlkOk C.X.N C.X.env.scope scope own) (hw : ∀ i, i ∈ ws → i ∈ own.map (·.2))
    (hg : ∀ (s : Shared) (H : Hp) (c : Addr) (cl : List (Str × Addr)) (fp : List Addr), PG (C.X.blk s H scope (compEnvC scope cl c C.X.env) fp) tg (tG (C.blk (C.X.blk s H scope (compEnvC scope cl c C.X.env) fp)) ws g))
    (ht : ∀ (s : Shared) (H : Hp) (c : Addr) (cl : List (Str × Addr)) (fp : List Addr), PTs (C.X.blk s H scope (compEnvC scope cl c C.X.env) fp) ifs (tT (C.blk (C.X.blk s H scope (compEnvC scope cl c C.X.env) fp)) t))
    (he : ∀ (s : Shared) (H : Hp) (c : Addr) (cl : List (Str × Addr)) (fp : List Addr), PE (C.X.blk s H scope (compEnvC scope cl c C.X.env) fp) elt (tE (C.blk (C.X.blk s H scope (compEnvC scope cl c C.X.env) fp)) f))
    (hs : ∀ x, foldedSetIterable iter C.X.env x = pure x) :
    PE C.X (.ListComp elt [⟨tg, iter, ifs, 0⟩] scope pos) (tE C fun ρ h => (i ρ h).bnd fun it h => if (!F.flag || it.noClo) = true then
      (compL g t f it (wipeE (if F.flag then killE ρ else ρ) (own.map (·.2))) h.length wf 0 ((if F.flag then killH h else h) ++ [.lst false []])).nox else .err) :=
  (pe_lc hc nd hi ok (fun s H c cl fp => (hg s H c cl fp).imp fun V σ H Q => blkG) (fun s H c cl fp => (ht s H c cl fp).imp fun σ H Q => blkT) (fun s H c cl fp => (he s H c cl fp).imp fun σ H Q => blkE) hs).imp
    fun σ H Q ti => se_lc fl hc nd hi ok hw hg ht he hs ti
end
end EV
set_option linter.all false
set_option maxRecDepth 100000
set_option maxHeartbeats 1000000
/-! EvC: cells of a frame, tracked while another one runs. -/
namespace EV
open PySem PySem.Spec PyProof.Rows L2

theorem heap_at (c : Addr) (o : Obj) (hf : o.data ≠ .freed) : ∃ h : Heap, h.get? c = some o := by
  refine ⟨{ objs := Array.replicate (c + 1) o }, ?_⟩
  unfold Heap.get?
  have e : (Array.replicate (c + 1) o)[c]? = some o := by
    rw [Array.getElem?_replicate]
    exact if_pos (Nat.lt_succ_self c)
  show (match (Array.replicate (c + 1) o)[c]? with
    | some ⟨_, _, .freed, _⟩ => none
    | o => o) = some o
  rw [e]
  obtain ⟨a, b, d, s⟩ := o
  cases d <;> first | rfl | exact absurd rfl hf
theorem cell_nf {o : Obj} {v} (h : o.data = .cell v) : o.data ≠ .freed := by rw [h]; exact fun z => nomatch z
theorem ext_cell {f : Heap → Prop} {c : Addr} {o : Obj} (e : HO.ext f = cellO c o) {h : Heap} (g : h.get? c = some o) : f h := by
  unfold cellO at e
  rw [HO.ext.inj e]
  exact g
theorem cellO_inj {c : Addr} {o u : Obj} {v} (hd : o.data = .cell v) (e : cellO c o = cellO c u) : o = u := by
  obtain ⟨h, g⟩ := heap_at c o (cell_nf hd)
  have : h.get? c = some u := ext_cell (f := fun h => h.get? c = some u) (show HO.ext _ = cellO c o from e.symm) g
  rw [g] at this
  exact Option.some.inj this
def backV : Value → V
  | .none => .non
  | .bool b => .bl b
  | .int i _ => .int i
  | .str x _ => .str x
  | .bytes b _ => .byt b
  | .float b _ => .flt b
  | .ref a => .ref a
  | .type n => .ty n
  | _ => .non
theorem relV_back : ∀ {v : V} {u : Value}, L2.RelV v u → v = backV u
  | .non, _, e => by obtain rfl := e; rfl
  | .bl _, _, e => by obtain rfl := e; rfl
  | .int _, _, ⟨_, e⟩ => by subst e; rfl
  | .str _, _, ⟨_, e⟩ => by subst e; rfl
  | .byt _, _, ⟨_, e⟩ => by subst e; rfl
  | .flt _, _, ⟨_, e⟩ => by subst e; rfl
  | .ref _, _, e => by obtain rfl := e; rfl
  | .ty _, _, e => by obtain rfl := e; rfl
theorem relV_inj {v w : V} {u : Value} (a : L2.RelV v u) (b : L2.RelV w u) : v = w := (relV_back a).trans (relV_back b).symm

/-- Hs is Hb without the cells cs -/
structure Dn (cs : Addr → Prop) (Hb Hs : Hp) : Prop where
  out : ∀ b, ¬ cs b → Hs b = Hb b
  off : ∀ b, cs b → Hs b = none
  cel : ∀ b, cs b → ∃ o v, Hb b = some (cellO b o) ∧ o.data = .cell v
section
variable {cs : Addr → Prop} {Hb Hs Hb' Hs' : Hp} {Γ : Gm} {φ φ' : List Addr} {W W' : Cw}
theorem Dn.nc (D : Dn cs Hb Hs) {b : Addr} {o : HO} (e : Hs b = some o) : ¬ cs b := fun z => by rw [D.off b z] at e; cases e
theorem Dn.big (D : Dn cs Hb Hs) {b : Addr} {o : HO} (e : Hs b = some o) : Hb b = some o := by rw [← D.out b (D.nc e)]; exact e
theorem Dn.ne (D : Dn cs Hb Hs) {b : Addr} {o : HO} (e : Hb b = some o) (n : ∀ f, o ≠ .ext f) : Hs b = some o := by
  by_cases h : cs b
  · obtain ⟨u, v, e1, _⟩ := D.cel b h
    rw [e] at e1
    exact absurd (Option.some.inj e1) (n _)
  · rw [D.out b h]; exact e
theorem Dn.nx (D : Dn cs Hb Hs) {b : Addr} {f : Heap → Prop} (e : Hb b = some (.ext f)) (n : ∀ h, f h → ∃ o, h.get? b = some o ∧ ∀ v, o.data ≠ .cell v) : Hs b = some (.ext f) := by
  by_cases h : cs b
  · obtain ⟨u, v, e1, e2⟩ := D.cel b h
    rw [e] at e1
    obtain ⟨h, g⟩ := heap_at b u (cell_nf e2)
    obtain ⟨o, g1, g2⟩ := n h (ext_cell (Option.some.inj e1) g)
    rw [g] at g1
    cases g1
    exact absurd e2 (g2 v)
  · rw [D.out b h]; exact e
theorem Dn.stp (D : Dn cs Hb Hs) : Stp φ φ Hs Hb := ⟨fun _ _ h => h, fun _ h => .inl h, fun b o e _ _ => D.big e, fun b ps e => ⟨ps, D.big e⟩⟩
theorem Dn.sqT (D : Dn cs Hb Hs) {K p vs} (h : SqT K Hb p vs) : SqT K Hs p vs := by
  rcases h with (h | ⟨o, h⟩) | h
  · exact .inl (.inl (D.ne h fun _ z => nomatch z))
  · exact .inl (.inr ⟨o, D.ne h fun _ z => nomatch z⟩)
  · exact .inr h
mutual
theorem Dn.vr (D : Dn cs Hb Hs) (w : ∀ c v, W c v → W' c v) : ∀ (x : PV) (v : V), VR Γ φ Hb W x v → VR Γ φ Hs W' x v
  | .non, _, h => h
  | .bl _, _, h => h
  | .int _, _, h => h
  | .str _, _, h => h
  | .tup xs, v, h => by
    simp only [VR] at h ⊢
    obtain ⟨p, vs, e, s, r⟩ := h
    exact ⟨p, vs, e, D.sqT s, Dn.vrs D w xs vs r⟩
  | .ref n, v, h => h
  | .exc p c x, v, h => by
    simp only [VR] at h ⊢
    obtain ⟨b, d, y, e, h1, h2, r⟩ := h
    refine ⟨b, d, y, e, ?_, D.ne h2 (fun _ z => nomatch z), Dn.vr D w x y r⟩
    cases p with
    | false => exact D.nx h1 fun h ⟨oe, vs, g, _, k⟩ => ⟨oe, g, fun v z => by rw [k] at z; cases z⟩
    | true =>
      obtain ⟨t0, h3, h4⟩ := h1
      exact ⟨t0, D.nx h3 fun h g => ⟨_, g, fun v z => nomatch z⟩, D.sqT h4⟩
  | .clo k xs, v, h => by
    simp only [VR] at h ⊢
    obtain ⟨L, f, c', cl, vs, eL, e, h1, h2, h3, r, l, q⟩ := h
    refine ⟨L, f, c', cl, vs, eL, e, D.nx h1 fun h ⟨pm, ctv, g⟩ => ⟨_, g, fun v z => nomatch z⟩, D.nx h2 fun h ⟨oc, vs, t, g, k, _⟩ => ⟨oc, g, fun v z => by rw [k] at z; cases z⟩, h3, Dn.vrs D w xs vs r, l, fun i x u e1 e2 => ?_⟩
    obtain ⟨c, e3, e4⟩ := q i x u e1 e2
    exact ⟨c, e3, w c u e4⟩
theorem Dn.vrs (D : Dn cs Hb Hs) (w : ∀ c v, W c v → W' c v) : ∀ (x : List PV) (v : List V), VRs Γ φ Hb W x v → VRs Γ φ Hs W' x v
  | [], _, h => h
  | x :: xs, vs, h => by
    simp only [VRs] at h ⊢
    obtain ⟨v, r, e, h1, h2⟩ := h
    exact ⟨v, r, e, Dn.vr D w x v h1, Dn.vrs D w xs r h2⟩
end
theorem Dn.hr_up (D : Dn cs Hb Hs) (w : ∀ c v, W c v → W' c v) {h} (r : HR Γ φ Hs W h) : HR Γ φ Hb W' h :=
  ⟨r.len, fun n o a e1 e2 => (r.at_ n o a e1 e2).mono D.stp w fun vs e => D.big e, r.inj, r.tabs.ext fun b o e => D.big e⟩
theorem Dn.hr_dn (D : Dn cs Hb Hs) (w : ∀ c v, W c v → W' c v) {h} (r : HR Γ φ Hb W h) : HR Γ φ Hs W' h := by
  refine ⟨r.len, fun n o a e1 e2 => ?_, r.inj, fun p hp => ?_⟩
  · have old := r.at_ n o a e1 e2
    cases o with
    | lst f xs =>
      cases f with
      | false =>
        obtain ⟨vs, e, z⟩ := old
        exact ⟨vs, D.ne e (fun _ z => nomatch z), D.vrs w xs vs z⟩
      | true =>
        obtain ⟨vs, ⟨ob, e⟩, z⟩ := old
        exact ⟨vs, ⟨ob, D.ne e (fun _ z => nomatch z)⟩, D.vrs w xs vs z⟩
    | dct0 => exact D.ne (show Hb a = some (.dK []) from old) (fun _ z => nomatch z)
    | dead => trivial
  · obtain ⟨ps, h1, h2, h3⟩ := r.tabs p hp
    refine ⟨ps, D.ne h1 (fun _ z => nomatch z), h2, fun pos cv hc => ?_⟩
    obtain ⟨c, e1, e2⟩ := h3 pos cv hc
    exact ⟨c, e1, D.nx e2 fun h ⟨oc, vs, t, g, k, _⟩ => ⟨oc, g, fun v z => by rw [k] at z; cases z⟩⟩
theorem Dn.stp_dn (D : Dn cs Hb Hs) (D' : Dn cs Hb' Hs') (s : Stp φ φ' Hb Hb') : Stp φ φ' Hs Hs' where
  pre := s.pre
  new := fun a h => (s.new a h).imp id fun q vs e => q vs (D.big e)
  keep := fun b o e n l => by
    have z := s.keep b o (D.big e) n l
    rw [D'.out b (D.nc e)]; exact z
  tbl := fun b ps e => by
    obtain ⟨ps', z⟩ := s.tbl b ps (D.big e)
    exact ⟨ps', by rw [D'.out b (D.nc e)]; exact z⟩
theorem Dn.stp_up (D : Dn cs Hb Hs) (D' : Dn cs Hb' Hs') (same : ∀ c, cs c → Hb' c = Hb c) (s : Stp φ φ' Hs Hs') : Stp φ φ' Hb Hb' where
  pre := s.pre
  new := fun a h => (s.new a h).imp id fun q vs e => q vs (D.ne e fun _ z => nomatch z)
  keep := fun b o e n l => by
    by_cases hb : cs b
    · rw [same b hb]; exact e
    · rw [← D'.out b hb]
      exact s.keep b o (by rw [D.out b hb]; exact e) n l
  tbl := fun b ps e => by
    obtain ⟨ps', z⟩ := s.tbl b ps (D.ne e fun _ z => nomatch z)
    exact ⟨ps', D'.big z⟩
theorem Dn.hok_dn {P : Program} {w : World} {h : Heap} (D : Dn cs Hb Hs) (k : HOk P w Hb h) : HOk P w Hs h := fun b u e =>
  (k b u (D.big e)).stay (fun _ _ _ q => q) (fun c q => D.ne q fun _ z => nomatch z) fun c xs q => D.ne q fun _ z => nomatch z
theorem Dn.hok_up {P : Program} {w : World} {h : Heap} (D : Dn cs Hb Hs) (k : HOk P w Hs h) (g : ∀ c o, cs c → Hb c = some (cellO c o) → h.get? c = some o) : HOk P w Hb h := fun b u e => by
  by_cases hb : cs b
  · obtain ⟨o, v, e1, e2⟩ := D.cel b hb
    rw [e] at e1
    cases e1
    have z := g b o hb e
    exact ⟨z, ⟨o, z⟩, fun h1 h2 q st => st _ q⟩
  · exact (k b u (by rw [D.out b hb]; exact e)).stay (fun _ _ _ q => q) (fun c q => D.big q) fun c xs q => D.big q
/-- a cell's object, where it is tracked -/
theorem hok_cell {P : Program} {w : World} {h : Heap} {H : Hp} {c : Addr} {o : Obj} (k : HOk P w H h) (e : H c = some (cellO c o)) : h.get? c = some o := (k c _ e).1
theorem Dn.un_dn {P : Program} {w : World} {fs : List Addr} {h h' : Heap} (D : Dn cs Hb Hs) (D' : Dn cs Hb' Hs') (same : ∀ c, cs c → Hb' c = Hb c) (k : HOk P w Hb h) (k' : HOk P w Hb' h') (u : Un fs [] Hb Hb' h h') : Un fs [] Hs Hs' h h' := by
  have key : ∀ b o, cs b → h.get? b = some o → h'.get? b = some o := fun b o hb e => by
    obtain ⟨ob, v, e1, _⟩ := D.cel b hb
    have z := hok_cell k e1
    rw [e] at z
    cases z
    exact hok_cell k' ((same b hb).trans e1)
  refine ⟨fun b o e n h1 h2 => ?_, fun b o e n h1 h2 => ?_, fun b o e n h2 => ?_, u.there, fun b xs e => ?_, fun b o v e => ?_, fun b ps e => ?_⟩
  · by_cases hb : cs b
    · exact key b o hb e
    · exact u.keep b o e (by rw [← D.out b hb]; exact n) h1 h2
  · by_cases hb : cs b
    · exact ⟨o.slots, key b o hb e⟩
    · exact u.slot b o e (by rw [← D.out b hb]; exact n) h1 h2
  · by_cases hb : cs b
    · exact D'.off b hb
    · rw [D'.out b hb]
      exact u.free b o e (by rw [← D.out b hb]; exact n) h2
  · rw [D'.out b (D.nc e)]; exact u.tups b xs (D.big e)
  · rw [D'.out b (D.nc e)]; exact u.frzs b o v (D.big e)
  · obtain ⟨m, z⟩ := u.tbls b ps (D.big e)
    exact ⟨m, by rw [D'.out b (D.nc e)]; exact z⟩
theorem Dn.un_up {fs : List Addr} {h h' : Heap} (D : Dn cs Hb Hs) (D' : Dn cs Hb' Hs') (u : Un fs [] Hs Hs' h h') : Un fs [] Hb Hb' h h' := by
  have nb : ∀ {b : Addr}, Hb b = none → ¬ cs b := fun {b} n z => by
    obtain ⟨o, v, e, _⟩ := D.cel b z
    rw [n] at e; cases e
  refine ⟨fun b o e n h1 h2 => ?_, fun b o e n h1 h2 => ?_, fun b o e n h2 => ?_, u.there, fun b xs e => ?_, fun b o v e => ?_, fun b ps e => ?_⟩
  · exact u.keep b o e (by rw [D.out b (nb n)]; exact n) h1 h2
  · exact u.slot b o e (by rw [D.out b (nb n)]; exact n) h1 h2
  · rw [← D'.out b (nb n)]
    exact u.free b o e (by rw [D.out b (nb n)]; exact n) h2
  · exact D'.big (u.tups b xs (D.ne e fun _ z => nomatch z))
  · exact D'.big (u.frzs b o v (D.ne e fun _ z => nomatch z))
  · obtain ⟨m, z⟩ := u.tbls b ps (D.ne e fun _ z => nomatch z)
    exact ⟨m, D'.big z⟩
theorem Dn.ub_dn {P : Program} {w : World} {fs : List Addr} {h B h' : Heap} (D : Dn cs Hb Hs) (D' : Dn cs Hb' Hs') (same : ∀ c, cs c → Hb' c = Hb c) (k : HOk P w Hb h) (k' : HOk P w Hb' B) (u : UB fs Hb Hb' h B h') : UB fs Hs Hs' h B h' := by
  refine ⟨fun b o e n h1 => ?_, u.slot, fun b o e n => ?_, u.there, fun b xs e => ?_, fun b o v e => ?_, fun b ps e => ?_⟩
  · by_cases hb : cs b
    · obtain ⟨ob, v, e1, _⟩ := D.cel b hb
      have z := hok_cell k e1
      rw [e] at z
      cases z
      exact hok_cell k' ((same b hb).trans e1)
    · exact u.keep b o e (by rw [← D.out b hb]; exact n) h1
  · by_cases hb : cs b
    · exact D'.off b hb
    · rw [D'.out b hb]
      exact u.free b o e (by rw [← D.out b hb]; exact n)
  · rw [D'.out b (D.nc e)]; exact u.tups b xs (D.big e)
  · rw [D'.out b (D.nc e)]; exact u.frzs b o v (D.big e)
  · obtain ⟨m, z⟩ := u.tbls b ps (D.big e)
    exact ⟨m, by rw [D'.out b (D.nc e)]; exact z⟩
theorem Dn.ub_up {fs : List Addr} {h B h' : Heap} (D : Dn cs Hb Hs) (D' : Dn cs Hb' Hs') (u : UB fs Hs Hs' h B h') : UB fs Hb Hb' h B h' := by
  have nb : ∀ {b : Addr}, Hb b = none → ¬ cs b := fun {b} n z => by
    obtain ⟨o, v, e, _⟩ := D.cel b z
    rw [n] at e; cases e
  refine ⟨fun b o e n h1 => ?_, u.slot, fun b o e n => ?_, u.there, fun b xs e => ?_, fun b o v e => ?_, fun b ps e => ?_⟩
  · exact u.keep b o e (by rw [D.out b (nb n)]; exact n) h1
  · rw [← D'.out b (nb n)]
    exact u.free b o e (by rw [D.out b (nb n)]; exact n)
  · exact D'.big (u.tups b xs (D.ne e fun _ z => nomatch z))
  · exact D'.big (u.frzs b o v (D.ne e fun _ z => nomatch z))
  · obtain ⟨m, z⟩ := u.tbls b ps (D.ne e fun _ z => nomatch z)
    exact ⟨m, D'.big z⟩
end
open Classical in
/-- without some -/
noncomputable def dnC (cs : Addr → Prop) (H : Hp) : Hp := fun b => if cs b then none else H b
open Classical in
/-- with some, as they stand in a heap -/
noncomputable def upC (cs : Addr → Prop) (h : Heap) (H : Hp) : Hp := fun b => if cs b then (h.get? b).map (cellO b) else H b
open Classical in
/-- with some, as another one has them -/
noncomputable def upH (cs : Addr → Prop) (G : Hp) (H : Hp) : Hp := fun b => if cs b then G b else H b
section
variable {cs : Addr → Prop} {H : Hp}
theorem dn_dn (h : ∀ b, cs b → ∃ o v, H b = some (cellO b o) ∧ o.data = .cell v) : Dn cs H (dnC cs H) :=
  ⟨fun b hb => if_neg hb, fun b hb => if_pos hb, h⟩
theorem dn_up {h : Heap} (n : ∀ c, cs c → H c = none) (k : ∀ c, cs c → ∃ v, h.IsCell c v) : Dn cs (upC cs h H) H :=
  ⟨fun b hb => (if_neg hb).symm, n, fun b hb => by
    obtain ⟨v, o, e, d⟩ := k b hb
    exact ⟨o, v, by unfold upC; rw [if_pos hb, e]; rfl, d⟩⟩
theorem upC_get {h : Heap} {c : Addr} {o : Obj} (hc : cs c) (e : h.get? c = some o) : upC cs h H c = some (cellO c o) := by unfold upC; rw [if_pos hc, e]; rfl
theorem dn_upH {G Gs : Hp} (D : Dn cs G Gs) (n : ∀ c, cs c → H c = none) : Dn cs (upH cs G H) H :=
  ⟨fun b hb => (if_neg hb).symm, n, fun b hb => by unfold upH; rw [if_pos hb]; exact D.cel b hb⟩
theorem upH_same {G : Hp} {c : Addr} (hc : cs c) : upH cs G H c = G c := if_pos hc
theorem upH_id {G : Hp} (same : ∀ c, cs c → H c = G c) : upH cs G (dnC cs H) = H := by
  funext b
  unfold upH dnC
  by_cases hb : cs b
  · rw [if_pos hb]; exact (same b hb).symm
  · rw [if_neg hb, if_neg hb]
end
end EV
set_option linter.all false
set_option maxRecDepth 100000
set_option maxHeartbeats 1000000
/-! Ev10: calls. -/
namespace EV
open PySem PySem.Spec PyProof.Rows L2
section
variable {C : Ct}
theorem se_dct0 {pos : Pos} : PE C.X (.Dict [] [] pos) (tE C fun _ h => .ok (.ref h.length) (h ++ [.dct0])) :=
  pe_dnewK.imp fun σ H Q ⟨φ, ρ, h, rl, po⟩ p n => by
    have s := stp_add (φ := φ) (o := HO.dK []) n
    exact po _ _ s (rl.hr.add n (Ct.wm s) upd_same) _ (ref_add rl.hr.len)
theorem rg_vals {Γ φ H W} {k : Nat} : ∀ (l : List Nat), VRs Γ φ H W (l.map fun (k : Nat) => PV.int (k : Int)) (l.map fun i => V.int (0 + (i : Nat)))
  | [] => rfl
  | a :: l => VRs.cons' (show V.int (0 + (a : Int)) = V.int (a : Int) from by rw [Int.zero_add]) (rg_vals (k := k) l)
theorem se_lrng {a : Expr} {p p2 pos pos2 : Pos} {f} (hc : C.X.calm = true) (hg : Gl C.X "list") (hm : C.X.mg "list" = none) (hg2 : Gl C.X "range") (hm2 : C.X.mg "range" = none) (hs : isStar a = false) (ha : PE C.X a (tE C f)) :
    PE C.X (.Call (.Name "list" p) [.Call (.Name "range" p2) [a] [] pos2] [] pos) (tE C fun ρ h => (f ρ h).bnd fun x h => lrngV x h) := by
  refine (pe_listRg hc hg hm (prg_1 hg2 hm2 ha (starEach_cons hs)) (starEach_cons rfl)).imp fun σ H Q ⟨φ, ρ, h, rl, po⟩ => ?_
  refine tE.mk rl (po.bnd.imp fun x φ1 h1 H1 s1 hr1 p1 V v rl1 => ?_)
  cases x with
  | int n =>
    obtain rfl := vr_int v
    obtain ⟨c, p1⟩ := Po.if_ (show Po C φ1 σ H1 (if 0 ≤ n ∧ n ≤ 1000000 then _ else _) _ from p1)
    refine ⟨n, rfl, .of_le (Int.le_refl _) (by omega) (by decide) c.1, fun q hq => ?_⟩
    refine p1.newL hr1 ?_ hq _ (ref_add hr1.len)
    unfold rgV
    rw [Int.sub_zero]
    exact rg_vals (k := 0) _
  | _ => exact p1.elim
end

/-! ### a def, called where nothing is guarded -/
structure FnE (P : Program) (w : World) (K : PySem.W.Frag) (mg : Str → Option Value) (base : Heap) (k : Nat) (f : Addr) (fd : FuncData) (ps : List Str) (sp : Sp) : Prop where
  len : ∀ vs H Q E, sp vs H Q E → vs.length = ps.length
  run : ∀ (A : Around) (outer : List Env) (s : Shared) (H : Hp) (args : Args) (us : List Value) (vs : List V) (Q : VK) (E : XK), A.guards = some [] → Room k A → Env0 P w K mg base A outer s H → BindsTo s fd args (ps.zip us) → Vals vs us → sp vs H Q E →
    codeAny (model P w) A (.call (.ref f) args) (CR (CX P w) outer P w H s Q E) s
def PoR (Γ : Gm) (φ : List Addr) (H : Hp) (r : Rz PV) (Q : VK) (E : XK) : Prop := match r with
  | .ok v h' => ∀ φ' H', Stp φ φ' H H' → HR Γ φ' H' (Trk H') h' → ∀ V, VR Γ φ' H' (Trk H') v V → Q V H'
  | .ex c v h' => PoX Γ φ H c v h' E
  | .err => False
/-- what a def promises: what the evaluator computes -/
def spF (Γ : Gm) (np : Nat) (call : List PV → Hh → Rz PV) : Sp := fun Vs H Q E => Vs.length = np ∧ ∃ φ h vs, HR Γ φ H (Trk H) h ∧ VRs Γ φ H (Trk H) vs Vs ∧ PoR Γ φ H (call vs h) Q E
section
variable {X : Cx} {k : Nat} {f : Addr} {fd : FuncData} {ps : List Str} {sp : Sp} {E : XK} {x : Str} {p pos : Pos} {e : Expr} {es : List Expr} {t : TA}
theorem run_fnE {pins : List (Addr × Obj)} {σ : L2.St} {H : Hp} {s : Shared} {Q : VK} {us : List Value} {vs : List V} (F : FnE X.prog X.w X.K X.mg X.base k f fd ps sp) (gd : X.A.guards = some []) (hr : Room k X.A) (hb : Binds X.K fd ps []) (hx : Passes (CX X.prog X.w) X E)
    (I : Inv X pins σ H s) (r : Vals vs us) (h : sp vs H Q E) : wpAny (model X.prog X.w) X.A (call (.ref f) us) (EP X pins σ Q) X.xe s := by
  have hl : us.length = ps.length := by rw [← r.length]; exact F.len _ _ _ _ h
  have b := hb s us I.kIn (by rw [List.append_nil]; exact hl)
  rw [List.append_nil] at b
  refine wpAny_call (codeAny_mono (F.run X.A X.stack s H ⟨us, []⟩ us vs Q E gd hr I.env0 b r h) fun r s' hq => ?_)
  cases r with
  | error e => exact hx pins σ H s e s' I hq
  | ok fl =>
    cases fl with
    | ret u => exact I.after hq
    | next => exact False.elim hq
    | brk => exact False.elim hq
    | cont => exact False.elim hq
theorem pe_callE (F : FnE X.prog X.w X.K X.mg X.base k f fd ps sp) (gd : X.A.guards = some []) (hr : Room k X.A) (hg : Gl X x) (hm : X.mg x = some (.ref f)) (hk : PySem.W.keepIn X.K (.ref f) = true) (hb : Binds X.K fd ps []) (hx : Passes (CX X.prog X.w) X E)
    (ha : PA X (e :: es) t) (hdb : (x == ("__debug__" : Str)) = false) (he : starEach (e :: es) X.env = (false, eval e X.env) :: starEach es X.env) (hpl : (backTo pos (starEach es X.env)).any (·.1) = false) :
    PE X (.Call (.Name x p) (e :: es) [] pos) (fun σ H Q => t σ H fun vs H1 => sp vs H1 Q E) := by
  refine ⟨fun pins s σ H Q I h => ?_⟩
  refine wpAny_Call_Name_kw (ld_glob I hg hm ?_ hdb)
  refine PySem.W.callWith_K (h₀ := X.base) I.ok.mod.kin hk (thn (ha.run pos pins s σ H _ I h) fun us s1 ⟨vs, H1, I1, r, q⟩ => ⟨I1.kIn, ?_⟩) he hpl
  exact run_fnE F gd hr hb hx I1 r q
theorem pe_callE0 (F : FnE X.prog X.w X.K X.mg X.base k f fd ps sp) (gd : X.A.guards = some []) (hr : Room k X.A) (hg : Gl X x) (hm : X.mg x = some (.ref f)) (hk : PySem.W.keepIn X.K (.ref f) = true) (hb : Binds X.K fd ps []) (hx : Passes (CX X.prog X.w) X E)
    (hdb : (x == ("__debug__" : Str)) = false) : PE X (.Call (.Name x p) [] [] pos) (fun σ H Q => sp [] H Q E) := by
  refine ⟨fun pins s σ H Q I h => ?_⟩
  refine wpAny_Call_Name_kw (ld_glob I hg hm ?_ hdb)
  exact PySem.W.callWith_K0 I.kIn hk (run_fnE (us := []) F gd hr hb hx I .nil h)
end
theorem star_any {pos : Pos} {env : Env} : ∀ {es : List Expr}, es.all (fun e => !isStar e) = true → (backTo pos (starEach es env)).any (·.1) = false
  | [], _ => rfl
  | e :: r, h => by
    rw [List.all_cons, Bool.and_eq_true] at h
    rw [starEach_cons (by simpa using h.1)]
    show (false || (backTo pos (starEach r env)).any (·.1)) = false
    rw [star_any h.2]; rfl
section
variable {C : Ct}
theorem Po.toR {φ σ H} {r : Rz PV} {Q : VK} (hf : C.flag = false) (p : Po C φ σ H r fun v φ' _ H' => ∀ V, VR C.Γ φ' H' (C.W σ H') v V → Q V H') : PoR C.Γ φ H r Q C.Ex := by
  cases r with
  | ok v h => exact fun φ' H' s hr V vr => p φ' H' s (hr.w Ct.w_on) V (vr.w Ct.w_on)
  | ex c v h => exact p
  | err => exact p
/-- what is known of a def that is called -/
structure FnC (C : Ct) (f : Addr) (call : List PV → Hh → Rz PV) (x : Str) : Prop where
  fn : ∃ k fd ps, FnE C.X.prog C.X.w C.X.K C.X.mg C.X.base k f fd ps (spF C.Γ ps.length call) ∧ (∀ vs h, vs.length ≠ ps.length → call vs h = .err) ∧ Room k C.X.A ∧ Binds C.X.K fd ps []
  mg : C.X.mg x = some (.ref f)
  kp : PySem.W.keepIn C.X.K (.ref f) = true
theorem se_call_old {f : Addr} {call : List PV → Hh → Rz PV} {x : Str} {p pos : Pos} {e : Expr} {es : List Expr} {g} (hf : C.flag = false) (F : FnC C f call x) (gd : C.X.A.guards = some []) (hg : Gl C.X x) (hx : Passes (CX C.X.prog C.X.w) C.X C.Ex)
    (hs : (e :: es).all (fun e => !isStar e) = true) (ha : PA C.X (e :: es) (tA C g)) (hdb : (x == ("__debug__" : Str)) = false) :
    PE C.X (.Call (.Name x p) (e :: es) [] pos) (tE C fun ρ h => (g ρ h).bnd fun vs h => call vs h) := by
  obtain ⟨k, fd, ps, F1, hlen, hr, hb⟩ := F.fn
  rw [List.all_cons, Bool.and_eq_true] at hs
  refine (pe_callE F1 gd hr hg F.mg F.kp hb hx ha hdb (starEach_cons (by simpa using hs.1)) (star_any hs.2)).imp fun σ H Q ⟨φ, ρ, h, rl, po⟩ => ?_
  refine tA.mk rl (po.bnd.imp fun xs φ1 h1 H1 s1 hr1 p1 Vs vs rl1 => ?_)
  refine ⟨?_, φ1, h1, xs, hr1.w (Ct.w_off hf), vs.w (Ct.w_off hf), p1.toR hf⟩
  rw [vs.len]
  refine Decidable.byContradiction fun hn => ?_
  rw [hlen xs h1 hn] at p1
  exact p1
theorem se_call0 {f : Addr} {call : List PV → Hh → Rz PV} {x : Str} {p pos : Pos} (hf : C.flag = false) (F : FnC C f call x) (gd : C.X.A.guards = some []) (hg : Gl C.X x) (hx : Passes (CX C.X.prog C.X.w) C.X C.Ex) (hdb : (x == ("__debug__" : Str)) = false) :
    PE C.X (.Call (.Name x p) [] [] pos) (tE C fun ρ h => (Rz.ok [] h).bnd fun vs h => call vs h) := by
  obtain ⟨k, fd, ps, F1, hlen, hr, hb⟩ := F.fn
  refine (pe_callE0 F1 gd hr hg F.mg F.kp hb hx hdb).imp fun σ H Q ⟨φ, ρ, h, rl, po⟩ => ?_
  have po : Po C φ σ H (call [] h) _ := po
  refine ⟨?_, φ, h, [], rl.hr.w (Ct.w_off hf), rfl, po.toR hf⟩
  refine Decidable.byContradiction fun hn => ?_
  rw [hlen [] h hn] at po
  exact po
end

/-! ### a def's body keeps its promise -/
theorem fnE_of {P : Program} {w : World} {K : PySem.W.Frag} {mg : Str → Option Value} {base : Heap} {k : Nat} {f : Addr} {name qual : Str} {params : Arguments} {body : List Stmt} {scope : Scope} {dV kV doc pm cdv ct oc : Value} {an od : Option Addr}
    {osl : Array (Option Value)} {N ps : List Str} {sp : Sp} (lk : K.lookup f = some ⟨oc, od, .func (PySem.W.fnOf name qual params body scope dV kV doc pm an cdv ct), osl⟩) (hcd : PySem.W.codeIn K cdv qual = true) (S : FnScope N ps scope)
    (len : ∀ vs H Q E, sp vs H Q E → vs.length = ps.length)
    (hbody : ∀ (A : Around) (outer : List Env) (s : Shared) (H : Hp) (vs : List V) (Q : VK) (E : XK), A.guards = some [] → Room k (A.deeper (envOfC qual scope s.heap.objs.size f cdv)) → sp vs H Q E →
      ∃ t, PSs (cxOf (CX P w) P w K mg base N qual scope f cdv A outer s H E) body t ∧ t { nx := fun _ H' => Q .non H', rt := Q } (start N vs) H) :
    FnE P w K mg base (k + 1) f (PySem.W.fnOf name qual params body scope dV kV doc pm an cdv ct) ps sp := by
  refine ⟨len, fun A outer s H args us vs Q E gd hr e0 hb r hsp => ?_⟩
  have hl := len _ _ _ _ hsp
  have KX : K.In s.heap := e0.mod.kin.keeps fun b o e => (e0.bs b o e).1
  have lim : s.heap.NoLimit := e0.mod.nolimit.keeps fun b o e => (e0.bs b o e).1
  have hkind : ∀ y ∈ ps.zip us, scope.names.lookup y.1 = some .local ∨ (scope.names.lookup y.1 = some .cell ∧ ((cellsFrom (s.heap.objs.size + 1) scope.names []).lookup y.1).isSome = true) := fun ⟨n, v⟩ hy => by
    rcases S.par n (List.of_mem_zip hy).1 with q | q
    · exact .inl q
    · exact .inr ⟨q, PySem.W.cellsFrom_some _ _ _ (.inl q)⟩
  refine codeAny_call_function hr.depth (KX _ _ lk) rfl S.co S.gen rfl (PySem.W.codeRec_of KX hcd) (hb _ _ _ _ ?_)
  refine wpAny_newFunctionEnv_cells S.kind hkind fun env he s1 x => ?_
  subst he
  refine ⟨lim.keeps x.toInCall.keep, codeAny_func ?_⟩
  obtain ⟨t, ht, hq⟩ := hbody A outer s H vs Q E gd (hr.deeper _) hsp
  have I : Inv (cxOf (CX P w) P w K mg base N qual scope f cdv A outer s H E) [] (start N vs) H s1 := inv_start S hr.hd e0 hl r x
  refine wpAny_mono (ht.run [] s1 (start N vs) H _ I hq) (fun fl s' hs => ?_) fun e s' hs => hs
  have fin : ∀ {σ' : L2.St} {H' : Hp} {v : V} {u : Value}, Inv (cxOf (CX P w) P w K mg base N qual scope f cdv A outer s H E) [] σ' H' s' → RelV v u → Q v H' → CE outer P w H s Q u s' :=
    fun {σ' H' v u} J rv q => ⟨v, H', J.os, J.bare, J.base, J.hok, rv, q⟩
  cases fl with
  | ret u =>
    obtain ⟨v, σ', H', J, rv, q⟩ := hs
    exact fin J rv q
  | next =>
    obtain ⟨σ', H', J, q⟩ := hs
    exact fin (v := V.non) (u := Value.none) J rfl q
  | brk =>
    obtain ⟨_, _, _, q⟩ := hs
    exact False.elim q
  | cont =>
    obtain ⟨_, _, _, q⟩ := hs
    exact False.elim q

mutual
/-- where no place is named, no cell known: any places, any cells do -/
theorem VR.pure {Γ φ φ' H W W'} : ∀ (x : PV) (v : V), x.pure = true → VR Γ φ H W x v → VR Γ φ' H W' x v
  | .non, _, _, h => h
  | .bl _, _, _, h => h
  | .int _, _, _, h => h
  | .str _, _, _, h => h
  | .tup xs, v, n, h => by
    simp only [VR] at h ⊢
    obtain ⟨p, vs, e, s, r⟩ := h
    exact ⟨p, vs, e, s, VRs.pure xs vs n r⟩
  | .ref n, v, z, h => by cases z
  | .exc p c x, v, n, h => by
    simp only [VR] at h ⊢
    obtain ⟨b, d, y, e, h1, h2, r⟩ := h
    exact ⟨b, d, y, e, h1, h2, VR.pure x y n r⟩
  | .clo k xs, v, n, h => by cases n
theorem VRs.pure {Γ φ φ' H W W'} : ∀ (x : List PV) (v : List V), PV.pures x = true → VRs Γ φ H W x v → VRs Γ φ' H W' x v
  | [], _, _, h => h
  | x :: xs, vs, n, h => by
    simp only [VRs] at h ⊢
    obtain ⟨v, r, e, h1, h2⟩ := h
    have n' : (x.pure && PV.pures xs) = true := n
    rw [Bool.and_eq_true] at n'
    exact ⟨v, r, e, VR.pure x v n'.1 h1, VRs.pure xs r n'.2 h2⟩
end

/-! ### a call over a heap of its own -/
theorem lcl_ok {Γ φ H h args Vs run Q E} (hr : HR Γ φ H (Trk H) h) (v : VRs Γ φ H (Trk H) args Vs) (p : PoR Γ φ H (lcl h args run) Q E) :
    ∃ φ0 h0 as, HR Γ φ0 H (Trk H) h0 ∧ VRs Γ φ0 H (Trk H) as Vs ∧ PoR Γ φ0 H (run as h0) Q E := by
  unfold lcl at p
  cases e : grab h args with
  | none =>
    rw [e] at p
    exact ⟨φ, h, args, hr, v, p⟩
  | some g =>
    obtain ⟨m, as, h0⟩ := g
    rw [e] at p
    dsimp only at p
    obtain ⟨φ0, G, hr0, v0⟩ := grab_ok (W' := Trk H) hr v e
    refine ⟨φ0, h0, as, hr0, v0, ?_⟩
    have tw : ∀ {φ φ' : List Addr} {H H' : Hp} (s : Stp φ φ' H H'), ∀ c v, Trk H c v → Trk H' c v := fun s c v z => z.mono s
    cases er : run as h0 with
    | ok x h1 =>
      rw [er] at p
      have p : PoR Γ φ H (if (m.isEmpty && x.pure) = true then .ok x h else .ok (x.bak m h.length) (wrt m h.length m h1 h)) Q E := p
      intro φ1 H1 s hr1 V vr
      by_cases hc : (m.isEmpty && x.pure) = true
      · rw [Bool.and_eq_true, List.isEmpty_iff] at hc
        have p : PoR Γ φ H (.ok x h) Q E := by
          rw [if_pos (by rw [Bool.and_eq_true, List.isEmpty_iff]; exact hc)] at p
          exact p
        have nil : φ0 = [] := List.eq_nil_of_length_eq_zero (by rw [G.len, hc.1]; rfl)
        rw [nil] at s
        have st : Stp φ φ H H1 := ⟨fun _ _ z => z, fun _ z => .inl z, fun b o e n _ => s.keep b o e n fun _ => by simp, s.tbl⟩
        exact p φ H1 st ⟨hr.len, fun n o a e1 e2 => (hr.at_ n o a e1 e2).mono st (tw st) fun vs e => s.keep a _ e (fun _ z => nomatch z) fun _ => by simp, hr.inj, hr1.tabs⟩ V (VR.pure x V hc.2 vr)
      have p : PoR Γ φ H (.ok (x.bak m h.length) (wrt m h.length m h1 h)) Q E := by
        rw [if_neg hc] at p
        exact p
      have hr0' : HR Γ φ0 H (Trk H1) h0 := (grab_ok (W' := Trk H1) hr v e).elim fun φ0' z => by
        exact hr0.w fun c v z => z.mono s
      obtain ⟨φ', s', hr', k⟩ := back_ok (W' := Trk H1) hr G hr0' s hr1 (fun _ _ z => z) (tw s)
      exact p φ' H1 s' hr' V (k x V vr)
    | ex c x h1 =>
      rw [er] at p
      intro φ1 H1 d y s hr1 ed vr
      obtain ⟨φ', s', hr', k⟩ := back_ok (W' := Trk H1) hr G (hr0.w (tw s)) s hr1 (fun _ _ z => z) (tw s)
      exact p φ' H1 d y s' hr' ed (k x y vr)
    | err =>
      rw [er] at p
      exact p.elim
end EV
set_option linter.all false
set_option maxRecDepth 100000
set_option maxHeartbeats 1000000
/-! EvD: a call from a frame whose cells closures know. -/
namespace EV
open PySem PySem.Spec PyProof.Rows L2

/-- where a frame's cells stand apart from all that is below -/
structure FlC (X : Cx) : Prop where
  nb : ∀ x c, X.env.cells.lookup x = some c → X.base.get? c = none
  nf : ∀ x c, X.env.cells.lookup x = some c → c ∉ X.fs
def FlX (X : Cx) : Prop := (∀ x, X.fn x = true) ∨ FlC X
section
variable {X : Cx} {pins : List (Addr × Obj)} {σ : L2.St} {H : Hp} {s : Shared} {capd : List Nat}
theorem FlX.get (f : FlX X) (I : Inv X pins σ H s) : FlC X := by
  rcases f with f | f
  · refine ⟨fun x c e => ?_, fun x c e hm => ?_⟩
    · exact Heap.get?_none_of_le (Nat.le_trans I.ok.bsz (I.ok.cab x c (f x) e))
    · obtain ⟨_, o, ho, _⟩ := I.ok.funs.mem hm
      exact absurd (Heap.lt_size ho) (Nat.not_lt.mpr (I.ok.cab x c (f x) e))
  · exact f
theorem own_facts {c : Addr} {v : V} (I : Inv X pins σ H s) (o : Own X capd σ c v) : H c = none ∧ (∃ u, s.heap.IsCell c (some u) ∧ L2.RelV v u) ∧ ∃ x, X.env.cells.lookup x = some c := by
  obtain ⟨i, x, h1, h2, h3, h4⟩ := o
  refine ⟨I.freeC x c h3, ?_, x, h3⟩
  obtain ⟨m, _, hl⟩ := I.loc
  have k : X.env.scope.names.lookup x = some .cell ∨ X.env.scope.names.lookup x = some .free := h4.imp (fun z => z.2) id
  obtain ⟨u, r, q⟩ := hl i x v h1 h2 (k.elim (fun z => .inr (.inl z)) fun z => .inr (.inr z))
  rcases q with ⟨q, _⟩ | ⟨_, c', e, z⟩
  · have q : X.env.scope.names.lookup x = some .local := q
    rcases k with k | k <;> rw [q] at k <;> cases k
  · rw [h3] at e
    cases e
    exact ⟨u, z, r⟩
/-- the cells that a frame's closures may know -/
def ownC (C : Ct) (σ : L2.St) : Addr → Prop := fun c => C.flag = true ∧ ∃ v, Own C.X C.capd σ c v
end
section
variable {C : Ct} {pins : List (Addr × Obj)} {σ : L2.St} {H : Hp} {s : Shared}
theorem own_dn (I : Inv C.X pins σ H s) : Dn (ownC C σ) (upC (ownC C σ) s.heap H) H :=
  dn_up (fun c ⟨_, v, o⟩ => (own_facts I o).1) fun c ⟨_, v, o⟩ => by
    obtain ⟨_, ⟨u, z, _⟩, _⟩ := own_facts I o
    exact ⟨_, z⟩
theorem own_up (I : Inv C.X pins σ H s) : ∀ c v, C.W σ H c v → Trk (upC (ownC C σ) s.heap H) c v := fun c v z => by
  rcases z with z | ⟨hf, o⟩
  · exact z.mono (φ := []) (φ' := []) (own_dn I).stp
  · obtain ⟨_, ⟨u, ⟨ob, e, d⟩, r⟩, _⟩ := own_facts I o
    exact ⟨ob, u, upC_get ⟨hf, v, o⟩ e, d, r⟩
theorem own_back (I : Inv C.X pins σ H s) {H' : Hp} (same : ∀ c, ownC C σ c → H' c = upC (ownC C σ) s.heap H c) : ∀ c v, Trk H' c v → C.W σ (dnC (ownC C σ) H') c v := fun c v ⟨ob, u, e, d, r⟩ => by
  by_cases hc : ownC C σ c
  · obtain ⟨hf, v0, o⟩ := id hc
    obtain ⟨_, ⟨u0, ⟨ob0, e0, d0⟩, r0⟩, _⟩ := own_facts I o
    rw [same c hc, upC_get hc e0] at e
    have z := cellO_inj d0 (Option.some.inj e)
    subst z
    rw [d0] at d
    cases d
    rw [relV_inj r r0]
    exact .inr ⟨hf, o⟩
  · exact .inl ⟨ob, u, by unfold dnC; rw [if_neg hc]; exact e, d, r⟩
theorem own_same {φ φ' : List Addr} {Hb H' : Hp} {cs : Addr → Prop} {Hs : Hp} (D : Dn cs Hb Hs) (st : Stp φ φ' Hb H') : ∀ c, cs c → H' c = Hb c := fun c hc => by
  obtain ⟨o, v, e, _⟩ := D.cel c hc
  rw [e]
  exact st.fix e (fun _ z => nomatch z) fun _ z => nomatch z
theorem own_cel {Hb H' : Hp} {cs : Addr → Prop} {Hs : Hp} (D : Dn cs Hb Hs) (same : ∀ c, cs c → H' c = Hb c) : Dn cs H' (dnC cs H') := dn_dn fun c hc => by
  rw [same c hc]
  exact D.cel c hc
theorem env_up (I : Inv C.X pins σ H s) (hx : C.flag = true → FlX C.X) : Env0 C.X.prog C.X.w C.X.K C.X.mg C.X.base C.X.A C.X.stack s (upC (ownC C σ) s.heap H) := by
  have e0 := I.env0
  have D := own_dn I
  refine ⟨e0.frames, e0.mod, fun b o e => ⟨(e0.bs b o e).1, ?_⟩, e0.bsz, e0.funs, fun b hb => ?_, D.hok_up e0.hok fun c o hc e => ?_, e0.bare⟩
  · rw [← D.out b ?_]
    · exact (e0.bs b o e).2
    · rintro ⟨hf, v, ow⟩
      obtain ⟨_, _, x, k⟩ := own_facts I ow
      have := ((hx hf).get I).nb x b k
      rw [this] at e
      cases e
  · rw [← D.out b ?_]
    · exact e0.frf b hb
    · rintro ⟨hf, v, ow⟩
      obtain ⟨_, _, x, k⟩ := own_facts I ow
      rcases List.mem_cons.mp (I.stkSub b hb) with z | z
      · exact I.cne x b k z
      · exact ((hx hf).get I).nf x b k z
  · obtain ⟨_, v, ow⟩ := id hc
    obtain ⟨_, ⟨u, ⟨ob, e1, d⟩, _⟩, _⟩ := own_facts I ow
    rw [upC_get hc e1] at e
    have := cellO_inj d (Option.some.inj e)
    subst this
    exact e1
theorem Po.nxf {α : Type} {φ : List Addr} {r : Rz α} {b : Bool} {k} (p : Po C φ σ H (r.nxf b) k) : Po C φ σ H r k := by
  cases b with
  | false => exact p
  | true =>
    cases r with
    | ok a h => exact p
    | ex c v h => exact (show False from p).elim
    | err => exact p
theorem run_fnC {k : Nat} {f : Addr} {fd : FuncData} {ps : List Str} {call : List PV → Hh → Rz PV} {Q : VK} {us : List Value} {Vs : List V} {φ : List Addr} {h : Hh} {vs : List PV} (F : FnE C.X.prog C.X.w C.X.K C.X.mg C.X.base k f fd ps (spF C.Γ ps.length call))
    (hlen : ∀ vs h, vs.length ≠ ps.length → call vs h = .err) (gd : C.X.A.guards = some []) (hr : Room k C.X.A) (hx : Passes (CX C.X.prog C.X.w) C.X C.Ex) (hfl : C.flag = true → FlX C.X)
    (I : Inv C.X pins σ H s) (r : Vals Vs us) (hrr : HR C.Γ φ H (C.W σ H) h) (vr : VRs C.Γ φ H (C.W σ H) vs Vs) (p : Po C φ σ H ((call vs h).nxf C.flag) fun v φ' _ H' => ∀ V, VR C.Γ φ' H' (C.W σ H') v V → Q V H')
    {args : Args} (b : us.length = ps.length → BindsTo s fd args (ps.zip us)) : codeAny (model C.X.prog C.X.w) C.X.A (.call (.ref f) args) (fun r s' => match r with
      | .ok (.ret u) => EP C.X pins σ Q u s'
      | .ok _ => False
      | .error e => C.X.xe e s') s := by
  have hl : Vs.length = ps.length := by
    rw [vr.len]
    refine Decidable.byContradiction fun hn => ?_
    have p := p.nxf
    rw [hlen vs h hn] at p
    exact p
  have hl' : us.length = ps.length := by rw [← r.length]; exact hl
  cases hf : C.flag with
  | false =>
    refine codeAny_mono (F.run C.X.A C.X.stack s H args us Vs Q C.Ex gd hr I.env0 (b hl') r ⟨hl, φ, h, vs, hrr.w (Ct.w_off hf), vr.w (Ct.w_off hf), p.nxf.toR hf⟩) fun r s' hq => ?_
    cases r with
    | error e => exact hx pins σ H s e s' I hq
    | ok fl =>
      cases fl with
      | ret u => exact I.after hq
      | next => exact False.elim hq
      | brk => exact False.elim hq
      | cont => exact False.elim hq
  | true =>
    rw [hf] at p
    have D := own_dn I
    have up := own_up I
    have sp : spF C.Γ ps.length call Vs (upC (ownC C σ) s.heap H) (fun v H' => (∀ c, ownC C σ c → H' c = upC (ownC C σ) s.heap H c) ∧ Q v (dnC (ownC C σ) H')) (fun _ _ _ => False) := by
      refine ⟨hl, φ, h, vs, D.hr_up up hrr, VRs.mono D.stp up _ _ vr, ?_⟩
      cases e : call vs h with
      | ok v h' =>
        rw [e] at p
        have p : Po C φ σ H (.ok v h') _ := p
        intro φ' H' st hr' V v'
        have same := own_same D st
        have D' := own_cel D same
        exact ⟨same, p φ' (dnC (ownC C σ) H') (D.stp_dn D' st) (D'.hr_dn (own_back I same) hr') V (D'.vr (own_back I same) v V v')⟩
      | ex c v h' =>
        rw [e] at p
        exact (show False from p).elim
      | err =>
        rw [e] at p
        exact (show False from p).elim
    refine codeAny_mono (F.run C.X.A C.X.stack s (upC (ownC C σ) s.heap H) args us Vs _ _ gd hr (env_up I hfl) (b hl') r sp) fun r s' hq => ?_
    cases r with
    | error e =>
      obtain ⟨_, _, _, _, _, _, _, _, _, _, _, _, z⟩ := hq
      exact z.elim
    | ok fl =>
      cases fl with
      | ret u =>
        obtain ⟨v, H', os, bare, un, hok, rv, same, q⟩ := hq
        have D' := own_cel D same
        exact I.after ⟨v, dnC (ownC C σ) H', os, bare, D.un_dn D' same (env_up I hfl).hok hok un, D'.hok_dn hok, rv, q⟩
      | next => exact False.elim hq
      | brk => exact False.elim hq
      | cont => exact False.elim hq
theorem wp_code {X : Cx} {f : Addr} {us : List Value} {kw : List (Str × Value)} {Q : Value → Shared → Prop} (h : codeAny (model X.prog X.w) X.A (.call (.ref f) ⟨us, kw⟩) (fun r s' => match r with
      | .ok (.ret u) => Q u s'
      | .ok _ => False
      | .error e => X.xe e s') s) : wpAny (model X.prog X.w) X.A (call (.ref f) us kw) Q X.xe s := by
  refine wpAny_call (codeAny_mono h fun r s' hq => ?_)
  cases r with
  | error e => exact hq
  | ok fl =>
    cases fl with
    | ret u => exact hq
    | next => exact False.elim hq
    | brk => exact False.elim hq
    | cont => exact False.elim hq
theorem se_call {F : Cfg} {f : Addr} {call : List PV → Hh → Rz PV} {x : Str} {p pos : Pos} {e : Expr} {es : List Expr} {g} (fl : C.flag = true → F.flag = true ∧ F.capd = C.capd) (K : FnC C f call x) (gd : C.X.A.guards = some []) (hg : Gl C.X x) (hx : Passes (CX C.X.prog C.X.w) C.X C.Ex) (hfl : C.flag = true → FlX C.X)
    (hs : (e :: es).all (fun e => !isStar e) = true) (ha : PA C.X (e :: es) (tA C g)) (hdb : (x == ("__debug__" : Str)) = false) :
    PE C.X (.Call (.Name x p) (e :: es) [] pos) (tE C fun ρ h => (g ρ h).bnd fun vs h => (call vs h).nxf F.flag) := by
  obtain ⟨k, fd, ps, F1, hlen, hr, hb⟩ := K.fn
  rw [List.all_cons, Bool.and_eq_true] at hs
  refine ⟨fun pins s σ H Q I ⟨φ, ρ, h, rl, po⟩ => ?_⟩
  refine wpAny_Call_Name_kw (ld_glob I hg K.mg ?_ hdb)
  refine PySem.W.callWith_K (h₀ := C.X.base) I.ok.mod.kin K.kp (thn (ha.run pos pins s σ H (fun Vs H1 => ∃ φ1 h1 vs, HR C.Γ φ1 H1 (C.W σ H1) h1 ∧ VRs C.Γ φ1 H1 (C.W σ H1) vs Vs ∧ Po C φ1 σ H1 ((call vs h1).nxf C.flag) fun v φ' _ H' => ∀ V, VR C.Γ φ' H' (C.W σ H') v V → Q V H') I
    (tA.mk rl (po.bnd.imp fun xs φ1 h1 H1 s1 hr1 p1 Vs vs rl1 => ⟨φ1, h1, xs, hr1, vs, ?_⟩))) fun us s1 ⟨Vs, H1, I1, r, φ1, h1, vs, hr1, vr, q⟩ => ⟨I1.kIn, ?_⟩) (starEach_cons (by simpa using hs.1)) (star_any hs.2)
  · cases hf : C.flag with
    | false => exact p1.nxf
    | true =>
      rw [(fl hf).1] at p1
      exact p1
  · refine wp_code (run_fnC F1 hlen gd hr hx hfl I1 r hr1 vr q fun hl => ?_)
    have b := hb s1 us I1.kIn (by rw [List.append_nil]; exact hl)
    rw [List.append_nil] at b
    exact b
end
end EV
set_option linter.all false
set_option maxRecDepth 100000
set_option maxHeartbeats 1000000
/-! EvE: a lambda runs. -/
namespace EV
open PySem PySem.Spec PyProof.Rows L2

theorem rev_none {x : Str} : ∀ {ps : List Str} {us : List Value}, x ∉ ps → (ps.zip us).reverse.lookup x = none
  | [], _, _ => rfl
  | _ :: _, [], _ => rfl
  | p :: ps, u :: us, h => by
    rw [List.zip_cons_cons, List.reverse_cons, List.lookup_append, rev_none fun z => h (List.mem_cons_of_mem _ z)]
    have : (x == p) = false := by
      rw [beq_eq_false_iff_ne]
      exact fun z => h (z ▸ List.mem_cons_self)
    show (List.lookup x [(p, u)]) = none
    unfold List.lookup
    rw [this]
    rfl
theorem rev_get {x : Str} {u : Value} : ∀ {ps : List Str} {us : List Value} {j : Nat}, ps.Nodup → ps[j]? = some x → us[j]? = some u → (ps.zip us).reverse.lookup x = some u
  | [], _, _, _, e, _ => by simp at e
  | _ :: _, [], _, _, _, e => by simp at e
  | p :: ps, v :: us, 0, nd, e, e2 => by
    simp at e e2
    subst e e2
    rw [List.zip_cons_cons, List.reverse_cons, List.lookup_append, rev_none (List.nodup_cons.mp nd).1]
    show (List.lookup p [(p, v)]) = _
    unfold List.lookup
    rw [beq_self_eq_true]
  | p :: ps, v :: us, j + 1, nd, e, e2 => by
    rw [List.zip_cons_cons, List.reverse_cons, List.lookup_append, rev_get (j := j) (List.nodup_cons.mp nd).2 (by simpa using e) (by simpa using e2)]
    rfl

/-- what a lambda of the text must be: lps its parameters -/
structure LamT (L : LamI) (lps : List Str) : Prop where
  kind : L.scope.kind = .function
  co : L.scope.isCoroutine = false
  gen : L.scope.isGenerator = false
  nc : ∀ y ∈ L.scope.names, y.2 ≠ .cell
  par : ∀ x ∈ lps, L.scope.names.lookup x = some .local
  fr : ∀ x ∈ L.names, L.scope.names.lookup x = some .free
  free : ∀ y ∈ L.scope.names, y.2 = .free → y.1 ∈ L.names
  nd : (L.names ++ lps).Nodup
  bind : ∀ (cl : List (Str × Addr)) (pm cv ctv : Value) (us : List Value), us.length = lps.length → bindArgs (PySem.W.kla_fn "<lambda>" L.qual L.params L.body L.scope cl pm cv ctv) ⟨us, []⟩ = pure (lps.zip us)
abbrev lmEnv (L : LamI) (cl : List (Str × Addr)) (loc f c' : Addr) : Env := PySem.W.envX L.qual L.scope loc f (.ref c') cl
/-- the context of a lambda's body, entered at s from the frames outer -/
def lmX (prog : Program) (w : World) (K : PySem.W.Frag) (mg : Str → Option Value) (base : Heap) (L : LamI) (lps : List Str) (A : Around) (outer : List Env) (s : Shared) (H : Hp) (E : XK) (cl : List (Str × Addr)) (f c' : Addr) : Cx where
  prog := prog
  w := w
  K := K
  mg := mg
  base := base
  A := A.deeper (lmEnv L cl s.heap.objs.size f c')
  N := L.names ++ lps
  s_0 := s
  H_0 := H
  env := lmEnv L cl s.heap.objs.size f c'
  outer := outer
  stack := lmEnv L cl s.heap.objs.size f c' :: outer
  ex := []
  fn := fun _ => false
  calm := true
  pn := []
  xe := fun e s' => wpAny (model prog w) (A.deeper (lmEnv L cl s.heap.objs.size f c')) (leaving (lmEnv L cl s.heap.objs.size f c') e) (fun _ s'' => L2.CX prog w outer H s E e s'') (fun e' s'' => L2.CX prog w outer H s E e' s'') s'
/-- a closure's cells hold what it has captured -/
structure Caps (L : LamI) (cl : List (Str × Addr)) (Cv : List V) (W : Cw) : Prop where
  inj : ∀ x y c, cl.lookup x = some c → cl.lookup y = some c → x = y
  dom : ∀ x c, cl.lookup x = some c → x ∈ L.names
  len : Cv.length = L.names.length
  at_ : ∀ (i : Nat) (x : Str) (u : V), L.names[i]? = some x → Cv[i]? = some u → ∃ c, cl.lookup x = some c ∧ W c u
def clC (cl : List (Str × Addr)) : Addr → Prop := fun c => ∃ x, cl.lookup x = some c
section
variable {prog : Program} {w : World} {K : PySem.W.Frag} {mg : Str → Option Value} {base : Heap} {L : LamI} {lps : List Str} {A : Around} {outer : List Env} {s : Shared} {H : Hp} {cl : List (Str × Addr)} {Cv : List V}
theorem Caps.of {W : Cw} (k : Caps L cl Cv W) {x : Str} {c : Addr} (e : cl.lookup x = some c) : ∃ (i : Nat) (u : V), L.names[i]? = some x ∧ Cv[i]? = some u ∧ W c u := by
  obtain ⟨i, hi⟩ := List.mem_iff_getElem?.mp (k.dom x c e)
  have hl : i < Cv.length := by rw [k.len]; exact (List.getElem?_eq_some_iff.mp hi).1
  obtain ⟨c', e', z⟩ := k.at_ i x Cv[i] hi (List.getElem?_eq_getElem hl)
  rw [e] at e'
  cases e'
  exact ⟨i, _, hi, List.getElem?_eq_getElem hl, z⟩
theorem Caps.dn (k : Caps L cl Cv (Trk H)) : Dn (clC cl) H (dnC (clC cl) H) := dn_dn fun c ⟨x, e⟩ => by
  obtain ⟨i, u, _, _, o, v, e1, e2, _⟩ := k.of e
  exact ⟨o, _, e1, e2⟩
theorem env_dn {cs : Addr → Prop} {Hb Hs : Hp} (D : Dn cs Hb Hs) (e0 : Env0 prog w K mg base A outer s Hb) : Env0 prog w K mg base A outer s Hs := by
  have n : ∀ {b : Addr}, Hb b = none → Hs b = none := fun {b} z => by
    cases q : Hs b with
    | none => rfl
    | some o => rw [D.big q] at z; cases z
  exact ⟨e0.frames, e0.mod, fun b o e => ⟨(e0.bs b o e).1, n (e0.bs b o e).2⟩, e0.bsz, e0.funs, fun b hb => n (e0.frf b hb), D.hok_dn e0.hok, e0.bare⟩
/-- the frame of a lambda -/
theorem lm_start {E : XK} {f c' : Addr} {h₁ : Heap} {tk : Nat} {us : List Value} {Vs : List V} (T : LamT L lps) (k : Caps L cl Cv (Trk H)) (e0 : Env0 prog w K mg base A outer s H) (hd : A.handled = none) (hl : us.length = lps.length) (r : Vals Vs us)
    (hns : h₁.Ns s.heap.objs.size fun y => (lps.zip us).reverse.lookup y) (kp : ∀ b o, s.heap.get? b = some o → h₁.get? b = some o) :
    Inv (lmX prog w K mg base L lps A outer s (dnC (clC cl) H) E cl f c') [] ((Cv ++ Vs).map some) (dnC (clC cl) H) { s with heap := h₁, toks := tk } := by
  have D := k.dn
  have e1 := env_dn D e0
  have noA : ∀ b : Addr, b ∉ (lmX prog w K mg base L lps A outer s (dnC (clC cl) H) E cl f c').ex := fun b z => absurd (show b ∈ ([] : List Addr) from z) (by simp)
  have cell : ∀ {x : Str} {c : Addr}, cl.lookup x = some c → ∃ (i : Nat) (u : V) (v : Value), L.names[i]? = some x ∧ Cv[i]? = some u ∧ L2.RelV u v ∧ s.heap.IsCell c (some v) := fun {x c} e => by
    obtain ⟨i, u, h1, h2, o, v, h3, h4, h5⟩ := k.of e
    exact ⟨i, u, v, h1, h2, h5, o, hok_cell e0.hok h3, h4⟩
  have vl : Vs.length = lps.length := by rw [r.length]; exact hl
  refine ⟨⟨e0.mod, T.kind, rfl, rfl, Nat.le_refl _, fun y z c e1 e2 => k.inj y z c e1 e2, fun y hy => ?_, fun y c z _ => ?_, fun _ => hd, Around.frames_deeper e0.frames, .inr ⟨rfl, rfl⟩, fun b z => absurd z (noA b), e1.bs, e1.bsz, fun b _ _ => noA b,
      fun b z => absurd z (noA b), e1.funs, e1.frf⟩,
    rfl, e0.bare, Un.kept kp, ⟨_, hns, fun i y v e1 e2 e3 => ?_⟩, fun y c e => ?_, e1.hok.fresh (Nat.le_refl _), fun y c e => D.off c ⟨y, e⟩, fun q hq => absurd (show q ∈ ([] : List (Addr × Obj)) ++ [] from hq) (by simp), e1.hok.kept kp, ?_⟩
  · have hy : L.scope.names.lookup y = some .cell ∨ L.scope.names.lookup y = some .free := hy
    rcases hy with hy | hy
    · exact absurd rfl (T.nc _ (PySem.mem_of_lookup hy))
    · obtain ⟨i, hi⟩ := List.mem_iff_getElem?.mp (T.free _ (PySem.mem_of_lookup hy) rfl)
      have hl : i < Cv.length := by rw [k.len]; exact (List.getElem?_eq_some_iff.mp hi).1
      obtain ⟨c', e', _⟩ := k.at_ i y Cv[i] hi (List.getElem?_eq_getElem hl)
      exact ⟨c', e'⟩
  · have z : false = true := z
    cases z
  · have e1 : (L.names ++ lps)[i]? = some y := e1
    have e2 : ((Cv ++ Vs).map some)[i]? = some (some v) := e2
    rw [List.getElem?_map] at e2
    by_cases hi : i < L.names.length
    · rw [List.getElem?_append_left hi] at e1
      rw [List.getElem?_append_left (by rw [k.len]; exact hi), List.getElem?_eq_getElem (by rw [k.len]; exact hi)] at e2
      simp only [Option.map_some, Option.some.injEq] at e2
      have e4 := T.fr y (List.mem_of_getElem? e1)
      obtain ⟨c, h1, o, u, h3, h4, h5⟩ := k.at_ i y v e1 (by rw [List.getElem?_eq_getElem (by rw [k.len]; exact hi), e2])
      exact ⟨u, h5, .inr ⟨.inr e4, c, h1, o, kp _ _ (hok_cell e0.hok h3), h4⟩⟩
    · rw [List.getElem?_append_right (by omega)] at e1
      rw [List.getElem?_append_right (by rw [k.len]; omega), k.len] at e2
      cases q : Vs[i - L.names.length]? with
      | none => rw [q] at e2; cases e2
      | some v' =>
        rw [q] at e2
        cases e2
        obtain ⟨u, hu, rv⟩ := r.get q
        exact ⟨u, rv, .inl ⟨T.par y (List.mem_of_getElem? e1), rev_get (List.nodup_append.mp T.nd).2.1 e1 hu⟩⟩
  · obtain ⟨i, u, v, _, _, _, o, h1, h2⟩ := cell (show cl.lookup y = some c from e)
    exact ⟨_, o, kp _ _ h1, h2⟩
  · show ((Cv ++ Vs).map some).length = (L.names ++ lps).length
    rw [List.length_map, List.length_append, List.length_append, k.len, vl]
/-- the exits -/
theorem cx_up {E : XK} {e : Value} {s' : Shared} (k : Caps L cl Cv (Trk H)) (e0 : Env0 prog w K mg base A outer s H) (h : L2.CX prog w outer (dnC (clC cl) H) s (fun cls d H' => (∀ c, clC cl c → H' c = none) → E cls d (upH (clC cl) H H')) e s') : L2.CX prog w outer H s E e s' := by
  have D := k.dn
  obtain ⟨a, B, Hs', cls, d, rfl, fl, hok, ub, na, os, ag, hE⟩ := h
  have cell : ∀ c, clC cl c → ∃ o v, H c = some (cellO c o) ∧ o.data = .cell v ∧ s.heap.get? c = some o ∧ B.get? c = some o := fun c hc => by
    obtain ⟨o, v, e1, e2⟩ := D.cel c hc
    have e3 := hok_cell e0.hok e1
    refine ⟨o, v, e1, e2, e3, ub.keep c o e3 (D.off c hc) fun z => ?_⟩
    rw [e0.frf c z] at e1
    cases e1
  have n : ∀ c, clC cl c → Hs' c = none := fun c hc => by
    obtain ⟨o, v, _, _, e3, _⟩ := cell c hc
    exact ub.free c o e3 (D.off c hc)
  have D' : Dn (clC cl) (upH (clC cl) H Hs') Hs' := dn_upH D n
  refine ⟨a, B, upH (clC cl) H Hs', cls, d, rfl, fl, D'.hok_up hok fun c o hc e => ?_, D.ub_up D' ub, ?_, os, ag, hE n⟩
  · obtain ⟨o', v, e1, e2, e3, e4⟩ := cell c hc
    rw [upH_same hc, e1] at e
    have := cellO_inj e2 (Option.some.inj e)
    rw [← this]
    exact e4
  · have ha : ¬ clC cl a := fun hc => by
      obtain ⟨o', v, e1, e2, e3, e4⟩ := cell a hc
      rw [fl.2.1] at e4
      cases e4
    rw [← D'.out a ha]
    exact na
theorem ce_up {Q : VK} {u : Value} {s' : Shared} {E : XK} {f c' : Addr} {σ : L2.St} {v : V} {Hs' : Hp} (k : Caps L cl Cv (Trk H)) (e0 : Env0 prog w K mg base A outer s H) (J : Inv (lmX prog w K mg base L lps A outer s (dnC (clC cl) H) E cl f c') [] σ Hs' s') (rv : L2.RelV v u)
    (q : (∀ c, clC cl c → Hs' c = none) → Q v (upH (clC cl) H Hs')) : CE outer prog w H s Q u s' := by
  have D := k.dn
  have n : ∀ c, clC cl c → Hs' c = none := fun c ⟨x, e⟩ => J.freeC x c e
  have D' : Dn (clC cl) (upH (clC cl) H Hs') Hs' := dn_upH D n
  refine ⟨v, upH (clC cl) H Hs', J.os, J.bare, D.un_up D' J.base, D'.hok_up J.hok fun c o hc e => ?_, rv, q n⟩
  obtain ⟨o', v', e1, e2⟩ := D.cel c hc
  rw [upH_same hc, e1] at e
  have := cellO_inj e2 (Option.some.inj e)
  rw [← this]
  refine J.base.keep c o' (hok_cell e0.hok e1) (D.off c hc) (fun z => ?_) fun z => absurd (show c ∈ ([] : List Addr) from z) (by simp)
  rw [e0.frf c z] at e1
  cases e1
end

/-- what is known of a lambda of the text -/
structure LmE (prog : Program) (w : World) (K : PySem.W.Frag) (mg : Str → Option Value) (base : Heap) (Γ : Gm) (k : Nat) (L : LamI) (np : Nat) (run : List PV → Hh → Rz PV) : Prop where
  run : ∀ (A : Around) (outer : List Env) (s : Shared) (H : Hp) (f c' : Addr) (cl : List (Str × Addr)) (Cv : List V) (φ : List Addr) (h : Hh) (caps args : List PV) (us : List Value) (Vs : List V) (Q : VK) (E : XK), A.guards = some [] → Room k A → Env0 prog w K mg base A outer s H →
    H f = some (LamO L cl c' f) → H c' = some (LamX.CodeO c' L.qual) → Caps L cl Cv (Trk H) → VRs Γ φ H (Trk H) caps Cv → HR Γ φ H (Trk H) h → VRs Γ φ H (Trk H) args Vs → Vals Vs us → us.length = np → PoR Γ φ H (run (caps ++ args) h) Q E →
    codeAny (model prog w) A (.call (.ref f) ⟨us, []⟩) (CR (CX prog w) outer prog w H s Q E) s
section
variable {prog : Program} {w : World} {K : PySem.W.Frag} {mg : Str → Option Value} {base : Heap} {L : LamI} {lps : List Str} {Γ : Gm}
/-- where a lambda's frame keeps its captured ones -/
theorem lm_W {A : Around} {outer : List Env} {s : Shared} {H : Hp} {cl : List (Str × Addr)} {Cv Vs : List V} {E EC : XK} {f c' : Addr} (T : LamT L lps) (k : Caps L cl Cv (Trk H)) : ∀ c v, Trk H c v → (⟨Γ, lmX prog w K mg base L lps A outer s (dnC (clC cl) H) E cl f c', true, [], EC⟩ : Ct).W ((Cv ++ Vs).map some) (dnC (clC cl) H) c v := fun c v ⟨o, u, e, d, r⟩ => by
  by_cases hc : clC cl c
  · obtain ⟨x, ex⟩ := id hc
    obtain ⟨i, v', h1, h2, o', u', h3, h4, h5⟩ := k.of ex
    rw [e] at h3
    have := cellO_inj d (Option.some.inj h3)
    subst this
    rw [d] at h4
    cases h4
    rw [relV_inj r h5]
    have hi := (List.getElem?_eq_some_iff.mp h1).1
    refine .inr ⟨rfl, i, x, ?_, ?_, ex, .inr (T.fr x (List.mem_of_getElem? h1))⟩
    · show (L.names ++ lps)[i]? = some x
      rw [List.getElem?_append_left hi]; exact h1
    · rw [List.getElem?_map, List.getElem?_append_left (by rw [k.len]; exact hi), h2]; rfl
  · exact .inl ⟨o, u, by unfold dnC; rw [if_neg hc]; exact e, d, r⟩
theorem lm_W' {A : Around} {outer : List Env} {s : Shared} {H Hs' : Hp} {cl : List (Str × Addr)} {Cv Vs : List V} {E EC : XK} {f c' : Addr} (T : LamT L lps) (k : Caps L cl Cv (Trk H)) (n : ∀ c, clC cl c → Hs' c = none) : ∀ c v, (⟨Γ, lmX prog w K mg base L lps A outer s (dnC (clC cl) H) E cl f c', true, [], EC⟩ : Ct).W ((Cv ++ Vs).map some) Hs' c v → Trk (upH (clC cl) H Hs') c v := fun c v z => by
  rcases z with z | ⟨_, i, x, h1, h2, h3, h4⟩
  · exact z.mono (φ := []) (φ' := []) (dn_upH k.dn n).stp
  · have h4 : L.scope.names.lookup x = some .free := by
      rcases h4 with ⟨z, _⟩ | z
      · cases z
      · exact z
    have h3 : cl.lookup x = some c := h3
    obtain ⟨j, u, k1, k2, o, w, k3, k4, k5⟩ := k.of h3
    have h1 : (L.names ++ lps)[i]? = some x := h1
    have hj := (List.getElem?_eq_some_iff.mp k1).1
    have hij : i = j := by
      have hi := (List.getElem?_eq_some_iff.mp h1).1
      refine (List.getElem?_inj hi T.nd).mp ?_
      rw [h1, List.getElem?_append_left hj]
      exact k1.symm
    subst hij
    rw [List.getElem?_map, List.getElem?_append_left (by rw [k.len]; exact hj), k2] at h2
    cases h2
    exact ⟨o, w, by rw [upH_same ⟨x, h3⟩]; exact k3, k4, k5⟩
theorem lm_RE {A : Around} {outer : List Env} {s : Shared} {H : Hp} {cl : List (Str × Addr)} {Cv Vs : List V} {E EC : XK} {f c' : Addr} {φ : List Addr} {h : Hh} {caps args : List PV} (T : LamT L lps) (k : Caps L cl Cv (Trk H)) (v1 : VRs Γ φ H (Trk H) caps Cv) (hr : HR Γ φ H (Trk H) h) (v2 : VRs Γ φ H (Trk H) args Vs) :
    Rl (⟨Γ, lmX prog w K mg base L lps A outer s (dnC (clC cl) H) E cl f c', true, [], EC⟩ : Ct) φ h ((caps ++ args).map some) ((Cv ++ Vs).map some) (dnC (clC cl) H) := by
  refine ⟨k.dn.hr_dn (lm_W T k) hr, ⟨fun i x e => ?_⟩⟩
  have vv := VRs.app v1 v2
  rw [List.getElem?_map] at e
  cases q : (caps ++ args)[i]? with
  | none => rw [q] at e; cases e
  | some y =>
    rw [q] at e
    cases e
    obtain ⟨V, e1, z⟩ := vv.get q
    exact ⟨V, by rw [List.getElem?_map, e1]; rfl, k.dn.vr (lm_W T k) _ _ z⟩
/-- the rule of a lambda, by its body's run -/
theorem lm_of {k : Nat} {run : List PV → Hh → Rz PV} (T : LamT L lps)
    (hbody : ∀ (A : Around) (outer : List Env) (s s1 : Shared) (H : Hp) (f c' : Addr) (cl : List (Str × Addr)) (Cv Vs : List V) (φ : List Addr) (h : Hh) (caps args : List PV) (Q : VK) (E : XK), A.guards = some [] → Room k (A.deeper (lmEnv L cl s.heap.objs.size f c')) → Env0 prog w K mg base A outer s H →
      Caps L cl Cv (Trk H) → VRs Γ φ H (Trk H) caps Cv → HR Γ φ H (Trk H) h → VRs Γ φ H (Trk H) args Vs → Vs.length = lps.length → PoR Γ φ H (run (caps ++ args) h) Q E →
      let Z := lmX prog w K mg base L lps A outer s (dnC (clC cl) H) (fun cls d H' => (∀ c, clC cl c → H' c = none) → E cls d (upH (clC cl) H H')) cl f c'
      Inv Z [] ((Cv ++ Vs).map some) (dnC (clC cl) H) s1 →
      wpAny (model prog w) Z.A (eval L.body Z.env) (EP Z [] ((Cv ++ Vs).map some) fun v Hs' => (∀ c, clC cl c → Hs' c = none) → Q v (upH (clC cl) H Hs')) Z.xe s1) :
    LmE prog w K mg base Γ (k + 1) L lps.length run := by
  refine ⟨fun A outer s H f c' cl Cv φ h caps args us Vs Q E gd hr e0 hf hc kp v1 hrr v2 r hl p => ?_⟩
  obtain ⟨⟨pm, ctv, ho⟩, _, _⟩ := e0.hok f _ hf
  obtain ⟨⟨oc, vs, t, hoc, hdc, hvc⟩, _, _⟩ := e0.hok c' _ hc
  have lim : s.heap.NoLimit := e0.mod.nolimit.keeps fun b o e => (e0.bs b o e).1
  refine PySem.W.kla_callFunE hr.depth ho rfl T.co T.gen rfl ⟨c', oc, vs, t, rfl, hoc, hdc, hvc⟩ ?_
  rw [T.bind cl pm (.ref c') ctv us hl]
  refine wpAny_pure (wpAny_newFunctionEnv (fun y hy => T.nc y hy) (fun y hy => T.par y.1 (List.of_mem_zip hy).1) (fun h₁ hns hsb => ⟨lim.fresh _ hsb, ?_⟩) T.kind)
  show codeAny _ _ (.expr L.body (lmEnv L cl s.heap.objs.size f c')) _ _
  have kk : ∀ b o, s.heap.get? b = some o → h₁.get? b = some o := fun b o e => hsb.extBut b o (Nat.ne_of_lt (Heap.lt_size e)) (Heap.get?_push_of_some _ e)
  have J := lm_start (E := fun cls d H' => (∀ c, clC cl c → H' c = none) → E cls d (upH (clC cl) H H')) (f := f) (c' := c') (tk := s.toks + (lps.zip us).length) T kp e0 hr.hd hl r hns kk
  refine PySem.W.kla_codeExpr (wpAny_mono (hbody A outer s _ H f c' cl Cv Vs φ h caps args Q E gd (hr.deeper _) e0 kp v1 hrr v2 (by rw [r.length]; exact hl) p J) (fun v s' hq => ?_) fun e s' hq => ?_)
  · obtain ⟨w', H', J', rv, q⟩ := hq
    exact ce_up kp e0 J' rv q
  · exact wpAny_mono hq (fun _ _ z => cx_up kp e0 z) fun _ _ z => cx_up kp e0 z
end
end EV
set_option linter.all false
set_option maxRecDepth 100000
set_option maxHeartbeats 1000000
/-! EvF: a lambda's body: an expression, a def called. -/
namespace EV
open PySem PySem.Spec PyProof.Rows L2

theorem PoR.step {Γ φ φ1 H H1} {r : Rz PV} {Q E} (p : PoR Γ φ H r Q E) (s : Stp φ φ1 H H1) : PoR Γ φ1 H1 r Q E := by
  cases r with
  | ok v h => exact fun φ' H' s' => p φ' H' (s.trans s')
  | ex c v h => exact PoX.step p s
  | err => exact p
section
variable {prog : Program} {w : World} {K : PySem.W.Frag} {mg : Str → Option Value} {base : Heap} {L : LamI} {lps : List Str} {Γ : Gm} {A : Around} {outer : List Env} {s s1 : Shared} {H : Hp} {f c' : Addr} {cl : List (Str × Addr)} {Cv Vs : List V} {φ : List Addr} {h : Hh} {caps args : List PV} {Q : VK} {E : XK}
/-- the E of a lambda's frame -/
noncomputable abbrev lmE (cl : List (Str × Addr)) (H : Hp) (E : XK) : XK := fun cls d H' => (∀ c, clC cl c → H' c = none) → E cls d (upH (clC cl) H H')
noncomputable abbrev lmC (prog : Program) (w : World) (K : PySem.W.Frag) (mg : Str → Option Value) (base : Heap) (Γ : Gm) (L : LamI) (lps : List Str) (A : Around) (outer : List Env) (s : Shared) (H : Hp) (E : XK) (cl : List (Str × Addr)) (f c' : Addr) : Ct :=
  ⟨Γ, lmX prog w K mg base L lps A outer s (dnC (clC cl) H) (lmE cl H E) cl f c', true, [], fun _ _ _ => False⟩
theorem lm_expr {run : En → Hh → Rz PV} (T : LamT L lps) (e0 : Env0 prog w K mg base A outer s H) (k : Caps L cl Cv (Trk H)) (v1 : VRs Γ φ H (Trk H) caps Cv) (hr : HR Γ φ H (Trk H) h) (v2 : VRs Γ φ H (Trk H) args Vs)
    (p : PoR Γ φ H ((run ((caps ++ args).map some) h).nox) Q E) (J : Inv (lmC prog w K mg base Γ L lps A outer s H E cl f c').X [] ((Cv ++ Vs).map some) (dnC (clC cl) H) s1)
    (hb : PE (lmC prog w K mg base Γ L lps A outer s H E cl f c').X L.body (tE (lmC prog w K mg base Γ L lps A outer s H E cl f c') run)) :
    wpAny (model prog w) (A.deeper (lmEnv L cl s.heap.objs.size f c')) (eval L.body (lmEnv L cl s.heap.objs.size f c')) (EP (lmC prog w K mg base Γ L lps A outer s H E cl f c').X [] ((Cv ++ Vs).map some) fun v Hs' => (∀ c, clC cl c → Hs' c = none) → Q v (upH (clC cl) H Hs'))
      (lmC prog w K mg base Γ L lps A outer s H E cl f c').X.xe s1 := by
  refine hb.run [] s1 _ _ _ J ⟨φ, (caps ++ args).map some, h, lm_RE T k v1 hr v2, ?_⟩
  have D := k.dn
  cases e : run ((caps ++ args).map some) h with
  | ok v h' =>
    rw [e] at p
    have p : PoR Γ φ H (.ok v h') Q E := p
    intro φ' Hs' st hr' V vr n
    have D' : Dn (clC cl) (upH (clC cl) H Hs') Hs' := dn_upH D n
    exact p φ' (upH (clC cl) H Hs') (D.stp_up D' (fun c hc => upH_same hc) st) (D'.hr_up (lm_W' T k n) hr') V (VR.mono D'.stp (lm_W' T k n) _ _ vr)
  | ex c v h' =>
    rw [e] at p
    exact (show False from p).elim
  | err =>
    rw [e] at p
    exact (show False from p).elim
theorem lm_call {run : En → Hh → Rz (List PV)} {call : List PV → Hh → Rz PV} {x : Str} {fa : Addr} {p1 pos : Pos} {e : Expr} {es : List Expr} (T : LamT L lps) (e0 : Env0 prog w K mg base A outer s H) (k : Caps L cl Cv (Trk H)) (v1 : VRs Γ φ H (Trk H) caps Cv) (hr : HR Γ φ H (Trk H) h) (v2 : VRs Γ φ H (Trk H) args Vs)
    (p : PoR Γ φ H ((run ((caps ++ args).map some) h).nox.bnd fun vs h => call vs h) Q E) (J : Inv (lmC prog w K mg base Γ L lps A outer s H E cl f c').X [] ((Cv ++ Vs).map some) (dnC (clC cl) H) s1)
    (hbd : L.body = .Call (.Name x p1) (e :: es) [] pos) (KF : FnC (lmC prog w K mg base Γ L lps A outer s H E cl f c') fa call x) (gd : (lmC prog w K mg base Γ L lps A outer s H E cl f c').X.A.guards = some []) (hg : Gl (lmC prog w K mg base Γ L lps A outer s H E cl f c').X x)
    (hs : (e :: es).all (fun e => !isStar e) = true) (ha : PA (lmC prog w K mg base Γ L lps A outer s H E cl f c').X (e :: es) (tA (lmC prog w K mg base Γ L lps A outer s H E cl f c') run)) (hdb : (x == ("__debug__" : Str)) = false) :
    wpAny (model prog w) (A.deeper (lmEnv L cl s.heap.objs.size f c')) (eval L.body (lmEnv L cl s.heap.objs.size f c')) (EP (lmC prog w K mg base Γ L lps A outer s H E cl f c').X [] ((Cv ++ Vs).map some) fun v Hs' => (∀ c, clC cl c → Hs' c = none) → Q v (upH (clC cl) H Hs'))
      (lmC prog w K mg base Γ L lps A outer s H E cl f c').X.xe s1 := by
  have D := k.dn
  rw [hbd]
  obtain ⟨kk, fd, ps, F1, hlen, hrm, hb⟩ := KF.fn
  rw [List.all_cons, Bool.and_eq_true] at hs
  have tk : Takes (lmC prog w K mg base Γ L lps A outer s H E cl f c').X (fun cls d _ H' => lmE cl H E cls d H') := takes_of rfl rfl rfl rfl
  have hx : Passes (CX prog w) (lmC prog w K mg base Γ L lps A outer s H E cl f c').X (lmE cl H E) := passes_call tk fun cls d σ H z => z
  refine wpAny_Call_Name_kw (ld_glob J hg KF.mg ?_ hdb)
  refine PySem.W.callWith_K (h₀ := base) e0.mod.kin KF.kp (thn (ha.run pos [] s1 _ _ (fun Us H1 => ∃ φ1 h1 vs, HR Γ φ1 H1 ((lmC prog w K mg base Γ L lps A outer s H E cl f c').W ((Cv ++ Vs).map some) H1) h1 ∧ VRs Γ φ1 H1 ((lmC prog w K mg base Γ L lps A outer s H E cl f c').W ((Cv ++ Vs).map some) H1) vs Us ∧
      ((∀ c, clC cl c → H1 c = none) → PoR Γ φ1 (upH (clC cl) H H1) (call vs h1) Q E)) J ⟨φ, (caps ++ args).map some, h, lm_RE T k v1 hr v2, ?_⟩) fun us s2 ⟨Us, H1, I1, r, φ1, h1, vs, hr1, vr, q⟩ => ⟨I1.kIn, ?_⟩) (starEach_cons (by simpa using hs.1)) (star_any hs.2)
  · cases e : run ((caps ++ args).map some) h with
    | ok vs h' =>
      rw [e] at p
      have p : PoR Γ φ H (call vs h') Q E := p
      intro φ' Hs' st hr' V vr
      exact ⟨φ', h', vs, hr', vr, fun n => p.step (D.stp_up (dn_upH D n) (fun c hc => upH_same hc) st)⟩
    | ex c v h' =>
      rw [e] at p
      exact (show False from p).elim
    | err =>
      rw [e] at p
      exact (show False from p).elim
  · have n : ∀ c, clC cl c → H1 c = none := fun c ⟨y, ey⟩ => I1.freeC y c ey
    have D1 : Dn (clC cl) (upH (clC cl) H H1) H1 := dn_upH D n
    have q := q n
    have up := lm_W' (Γ := Γ) (prog := prog) (w := w) (K := K) (mg := mg) (base := base) (A := A) (outer := outer) (s := s) (Vs := Vs) (E := lmE cl H E) (EC := fun _ _ _ => False) (f := f) (c' := c') T k n
    have hl : Us.length = ps.length := by
      rw [vr.len]
      refine Decidable.byContradiction fun hn => ?_
      rw [hlen vs h1 hn] at q
      exact q
    have hl' : us.length = ps.length := by rw [← r.length]; exact hl
    have b := hb s2 us I1.kIn (by rw [List.append_nil]; exact hl')
    rw [List.append_nil] at b
    have none_ : ∀ {b : Addr}, H b = none → H1 b = none → upH (clC cl) H H1 b = none := fun {b} z1 z2 => by
      by_cases hc : clC cl b
      · rw [upH_same hc]; exact z1
      · rw [← D1.out b hc]; exact z2
    have e1 := I1.env0
    have e2 : Env0 prog w K mg base (A.deeper (lmEnv L cl s.heap.objs.size f c')) (lmEnv L cl s.heap.objs.size f c' :: outer) s2 (upH (clC cl) H H1) := by
      refine ⟨e1.frames, e1.mod, fun b o e => ⟨(e1.bs b o e).1, none_ (e0.bs b o e).2 (e1.bs b o e).2⟩, e1.bsz, e1.funs, fun b hb => none_ ?_ (e1.frf b hb), D1.hok_up I1.hok fun c o hc e => ?_, e1.bare⟩
      · rcases List.mem_cons.mp (I1.stkSub b hb) with z | z
        · rw [z]
          exact e0.hok.fresh (Nat.le_refl _)
        · exact e0.frf b z
      · obtain ⟨o', v', g1, g2⟩ := D.cel c hc
        rw [upH_same hc, g1] at e
        have := cellO_inj g2 (Option.some.inj e)
        rw [← this]
        refine I1.base.keep c o' (hok_cell e0.hok g1) (D.off c hc) (fun z => ?_) fun z => absurd (show c ∈ ([] : List Addr) from z) (by simp)
        rw [e0.frf c z] at g1
        cases g1
    have sp : spF Γ ps.length call Us (upH (clC cl) H H1) (fun v H' => (∀ c, clC cl c → H' c = upH (clC cl) H H1 c) ∧ Q v H') (fun cls d H' => (∀ c, clC cl c → H' c = upH (clC cl) H H1 c) ∧ E cls d H') := by
      refine ⟨hl, φ1, h1, vs, D1.hr_up up hr1, VRs.mono D1.stp up _ _ vr, ?_⟩
      cases e : call vs h1 with
      | ok v h' =>
        rw [e] at q
        exact fun φ' H' st hr' V v' => ⟨own_same D1 st, q φ' H' st hr' V v'⟩
      | ex c v h' =>
        rw [e] at q
        exact fun φ' H' d y st hr' ed vr' => ⟨own_same D1 st, q φ' H' d y st hr' ed vr'⟩
      | err =>
        rw [e] at q
        exact q
    refine wp_code (X := (lmC prog w K mg base Γ L lps A outer s H E cl f c').X) (codeAny_mono (F1.run _ (lmEnv L cl s.heap.objs.size f c' :: outer) s2 (upH (clC cl) H H1) ⟨us, []⟩ us Us _ _ gd hrm e2 b r sp) fun r s3 hq => ?_)
    have idn : ∀ {H2 : Hp}, (∀ c, clC cl c → H2 c = upH (clC cl) H H1 c) → upH (clC cl) H (dnC (clC cl) H2) = H2 := fun {H2} same => upH_id fun c hc => by rw [same c hc, upH_same hc]
    cases r with
    | error e =>
      obtain ⟨a, B, H2, cls, d, rfl, fl, hok, ub, na, os, ag, same, hE⟩ := hq
      have D2 := own_cel D1 same
      refine hx [] _ H1 s2 _ s3 I1 ⟨a, B, dnC (clC cl) H2, cls, d, rfl, fl, D2.hok_dn hok, D1.ub_dn D2 same e2.hok hok ub, ?_, os, ag, fun _ => by rw [idn same]; exact hE⟩
      by_cases hc : clC cl a
      · exact D2.off a hc
      · rw [D2.out a hc]; exact na
    | ok fl =>
      cases fl with
      | ret u =>
        obtain ⟨v, H2, os, bare, un, hok, rv, same, q2⟩ := hq
        have D2 := own_cel D1 same
        exact I1.after ⟨v, dnC (clC cl) H2, os, bare, D1.un_dn D2 same e2.hok hok un, D2.hok_dn hok, rv, fun _ => by rw [idn same]; exact q2⟩
      | next => exact False.elim hq
      | brk => exact False.elim hq
      | cont => exact False.elim hq
end
end EV
set_option linter.all false
set_option maxRecDepth 100000
set_option maxHeartbeats 1000000
/-! EvG: a lambda made; what one has been handed called. -/
namespace EV
open PySem PySem.Spec PyProof.Rows L2

section
variable {C : Ct}
/-- what is known of a closure that is called -/
structure LmK (C : Ct) (k : Nat) (clo : List PV → List PV → Hh → Rz PV) : Prop where
  ex : ∃ kk np run, (∀ L, C.Γ.lam k L → LmE C.X.prog C.X.w C.X.K C.X.mg C.X.base C.Γ kk L np run) ∧ Room kk C.X.A ∧ (∀ cs vs h, clo cs vs h = run (cs ++ vs) h) ∧ ∀ L cs vs h, C.Γ.lam k L → cs.length = L.names.length → vs.length ≠ np → clo cs vs h = .err
theorem run_clo {k : Nat} {clo : List PV → List PV → Hh → Rz PV} {pins : List (Addr × Obj)} {σ : L2.St} {H : Hp} {s : Shared} {φ : List Addr} {h : Hh} {caps vs : List PV} {Vs : List V} {us : List Value} {f : Addr} {Q : VK} (hf : C.flag = false) (K : LmK C k clo) (gd : C.X.A.guards = some []) (hx : Passes (CX C.X.prog C.X.w) C.X C.Ex)
    (I : Inv C.X pins σ H s) (hr : HR C.Γ φ H (C.W σ H) h) (v : VR C.Γ φ H (C.W σ H) (.clo k caps) (.ref f)) (vr : VRs C.Γ φ H (C.W σ H) vs Vs) (r : Vals Vs us) (p : Po C φ σ H (clo caps vs h) fun v φ' _ H' => ∀ V, VR C.Γ φ' H' (C.W σ H') v V → Q V H') :
    wpAny (model C.X.prog C.X.w) C.X.A (call (.ref f) us) (EP C.X pins σ Q) C.X.xe s := by
  obtain ⟨kk, np, run, F, hrm, e1, e2⟩ := K.ex
  simp only [VR] at v
  obtain ⟨L, f', c', cl, Cv, eL, ef, h1, h2, ⟨h3, h3'⟩, r1, l, q⟩ := v
  cases ef
  have l1 : us.length = np := by
    rw [← r.length, vr.len]
    refine Decidable.byContradiction fun hn => ?_
    rw [e2 L caps vs h eL (by rw [← r1.len, l]) hn] at p
    exact p
  rw [e1] at p
  refine wp_code (codeAny_mono ((F L eL).run C.X.A C.X.stack s H f c' cl Cv φ h caps vs us Vs Q C.Ex gd hrm I.env0 h1 h2 ⟨h3, h3', l, fun i x u a b => ?_⟩ (r1.w (Ct.w_off hf)) (hr.w (Ct.w_off hf)) (vr.w (Ct.w_off hf)) r l1 (p.toR hf)) fun r s' hq => ?_)
  · obtain ⟨c, q1, q2⟩ := q i x u a b
    exact ⟨c, q1, Ct.w_off hf c u q2⟩
  · cases r with
    | error e => exact hx pins σ H s e s' I hq
    | ok fl =>
      cases fl with
      | ret u => exact I.after hq
      | next => exact False.elim hq
      | brk => exact False.elim hq
      | cont => exact False.elim hq
theorem clo_at {P : Program} {w : World} {Γ : Gm} {φ : List Addr} {H : Hp} {W : Cw} {h : Heap} {k : Nat} {caps : List PV} {f : Addr} (hok : HOk P w H h) (v : VR Γ φ H W (.clo k caps) (.ref f)) : PySem.W.FnAt f h := by
  simp only [VR] at v
  obtain ⟨L, f', c', cl, Cv, _, ef, h1, _⟩ := v
  cases ef
  obtain ⟨⟨pm, ctv, g⟩, _⟩ := hok f _ h1
  exact ⟨_, _, _, _, g⟩
theorem clo_ref {Γ : Gm} {φ : List Addr} {H : Hp} {W : Cw} {k : Nat} {caps : List PV} {V : L2.V} (v : VR Γ φ H W (.clo k caps) V) : ∃ f, V = .ref f := by
  simp only [VR] at v
  obtain ⟨L, f', c', cl, Cv, _, ef, _⟩ := v
  exact ⟨_, ef⟩
/-- a(..), a what was handed -/
theorem se_clov {i : Nat} {a : Str} {clo : Nat → List PV → List PV → Hh → Rz PV} {p pos : Pos} {es : List Expr} {g} (hf : C.flag = false) (K : ∀ k, LmK C k (clo k)) (gd : C.X.A.guards = some []) (hx : Passes (CX C.X.prog C.X.w) C.X C.Ex)
    (hN : C.X.N[i]? = some a) (hv : Vis C.X.env.scope a) (hd : (a == ("__debug__" : Str)) = false) (hcd : (a == ("__classdict__" : Str)) = false) (hs : es.all (fun e => !isStar e) = true) (ha : PA C.X es (tA C g)) (h0 : es = [] → ∀ ρ h, g ρ h = .ok [] h) :
    PE C.X (.Call (.Name a p) es [] pos) (tE C fun ρ h => match slot ρ i with
    | some (.clo k caps) => (g ρ h).bnd fun vs h => clo k caps vs h
    | _ => .err) := by
  refine ⟨fun pins s σ H Q I ⟨φ, ρ, h, rl, po⟩ => ?_⟩
  dsimp only at po
  cases es1 : slot ρ i with
  | none => rw [es1] at po; exact po.elim
  | some v =>
    rw [es1] at po
    cases v with
    | clo k caps =>
      dsimp only at po
      obtain ⟨V, e1, v1⟩ := rl.re.get i _ (slot_some es1)
      obtain ⟨f, rfl⟩ := clo_ref v1
      refine wpAny_Call_Name_kw (thn ((pe_var (pos := p) (i := i) hN hv hd hcd).run pins s σ H (fun v H1 => v = .ref f ∧ H1 = H) I ⟨.ref f, e1, rfl, rfl⟩) fun u s1 ⟨v, H1, I1, r1, q1⟩ => ?_)
      obtain ⟨ev, eH⟩ := q1
      subst ev eH
      obtain rfl : u = Value.ref f := r1
      cases es with
      | nil =>
        refine PySem.W.callWith_F0 (clo_at I1.hok v1) (run_clo (vs := []) (Vs := []) (us := []) hf (K k) gd hx I1 rl.hr v1 rfl .nil ?_)
        rw [h0 rfl] at po
        exact po
      | cons e es =>
        rw [List.all_cons, Bool.and_eq_true] at hs
        refine PySem.W.callWith_F (clo_at I1.hok v1) (thn (ha.run pos pins s1 σ H1 (fun Vs H2 => ∃ φ2 h2 vs, HR C.Γ φ2 H2 (C.W σ H2) h2 ∧ VRs C.Γ φ2 H2 (C.W σ H2) vs Vs ∧ VR C.Γ φ2 H2 (C.W σ H2) (.clo k caps) (.ref f) ∧ Po C φ2 σ H2 (clo k caps vs h2) fun v φ' _ H' => ∀ V, VR C.Γ φ' H' (C.W σ H') v V → Q V H') I1
          (tA.mk rl (po.bnd.imp fun xs φ2 h2 H2 s2 hr2 p2 Vs vs rl2 => ⟨φ2, h2, xs, hr2, vs, VR.mono s2 (Ct.wm s2) _ _ v1, p2⟩))) fun us s2 ⟨Vs, H2, I2, r2, φ2, h2, vs, hr2, vr2, v2, q2⟩ => ⟨clo_at I2.hok v2, ?_⟩) (starEach_cons (by simpa using hs.1)) (star_any hs.2)
        exact run_clo hf (K k) gd hx I2 hr2 v2 vr2 r2 q2
    | _ => exact po.elim

theorem capVals_ok {Γ φ H W} {σ : L2.St} {ρ : En} (re : RE Γ φ H W ρ σ) : ∀ {l : List Nat} {vs : List PV}, capVals ρ l = some vs → ∃ Vs : List V, VRs Γ φ H W vs Vs ∧ Vs.length = l.length ∧ ∀ (j : Nat) (i : Nat) (u : V), l[j]? = some i → Vs[j]? = some u → σ[i]? = some (some u)
  | [], vs, e => by
    cases e
    exact ⟨[], rfl, rfl, fun j i u z => by simp at z⟩
  | i :: r, vs, e => by
    unfold capVals at e
    split at e
    · rename_i v l e1 e2
      cases e
      obtain ⟨V, e3, z⟩ := re.get i v e1
      obtain ⟨Vs, k1, k2, k3⟩ := capVals_ok re e2
      refine ⟨V :: Vs, VRs.cons' z k1, by rw [List.length_cons, List.length_cons, k2], fun j i' u a b => ?_⟩
      cases j with
      | zero =>
        simp at a b
        subst a b
        exact e3
      | succ j => exact k3 j i' u (by simpa using a) (by simpa using b)
    · cases e
/-- what the making of lambda k in this frame asks -/
structure LamM (C : Ct) (L : LamI) (l : List Nat) : Prop where
  qual : L.qual = C.X.env.qual ++ "<lambda>"
  tab : ∃ c P, LamX.TabB C.X.base C.X.mg c P ∧ C.X.env.code = .ref c ∧ (P, L.qual) ∈ C.Γ.tabs ∧ ∀ p ∈ C.Γ.tabs, p.1 = P → p.2 = L.qual
  def_ : ∀ env : Env, defaultsOf L.params env = ([], [])
  free : ∀ y ∈ L.scope.names, y.2 = .free → y.1 ∈ L.names
  fr : ∀ x ∈ L.names, L.scope.names.lookup x = some .free
  len : l.length = L.names.length
  at_ : ∀ (j i : Nat) (x : Str), l[j]? = some i → L.names[j]? = some x → C.X.N[i]? = some x ∧ i ∈ C.capd ∧ C.X.env.kindOf x = some .cell
theorem LamM.cell {L : LamI} {l : List Nat} (M : LamM C L l) {x : Str} (h : x ∈ L.names) : C.X.env.scope.names.lookup x = some .cell := by
  obtain ⟨j, hj⟩ := List.mem_iff_getElem?.mp h
  have : j < l.length := by rw [M.len]; exact (List.getElem?_eq_some_iff.mp hj).1
  exact (M.at_ j l[j] x (List.getElem?_eq_getElem this) hj).2.2
theorem lam_new {L : LamI} {l : List Nat} {pins : List (Addr × Obj)} {σ : L2.St} {H : Hp} {s : Shared} {pos : Pos} {Q : Value → Shared → Prop} (M : LamM C L l) (I : Inv C.X pins σ H s) (hT : LamX.Tabs C.Γ.tabs H)
    (h : ∀ (f c' : Addr) (H1 : Hp) (s' : Shared), H1 f = some (LamO L (cloFrom C.X.env.cells L.scope.names []) c' f) → H1 c' = some (LamX.CodeO c' L.qual) → Inv C.X pins σ H1 s' → (∀ b o, H b = some o → (∀ ps, o ≠ .tbl ps) → H1 b = some o) → (∀ b ps, H b = some (.tbl ps) → ∃ ps', H1 b = some (.tbl ps')) → LamX.Tabs C.Γ.tabs H1 → Q (.ref f) s') :
    wpAny (model C.X.prog C.X.w) C.X.A (eval (.Lambda L.params L.body L.scope pos) C.X.env) Q C.X.xe s := by
  obtain ⟨c, P, TB, hcode, hm, hu⟩ := M.tab
  have hfree : ∀ y ∈ L.scope.names, y.2 = .free → ∃ c, C.X.env.cells.lookup y.1 = some c := fun y hy e =>
    I.ok.has _ (.inl (M.cell (M.free y hy e)))
  have mq : L.qual = C.X.env.qual ++ "<lambda>" := M.qual
  obtain ⟨ps, hP, ht, ha⟩ := hT _ hm
  have md := M.def_ C.X.env
  refine PySem.W.kla_eval md ?_
  have bP := TB.bm.keeps I.bk
  have hP' := I.hok P _ hP
  have hP' : s.heap.get? P = some { cls := .none, data := .fields ps } := hP'
  cases hc : codeAmong pos ps.toList with
  | some cv =>
    obtain ⟨c', e, hco⟩ := ha pos cv hc
    subst e
    refine PySem.W.kla_makeFunctionHit (P := P) (c := c) (mg := C.X.mg) (ps := ps) (closure_ok hfree) I.ok.glob (I.mod.glob.keeps I.bk) hcode (TB.code.keeps I.bk) hP' ht hc bP fun ctv h' tk hx hsz => ?_
    have nf : H h'.objs.size = none := I.hok.fresh hsz
    have I1 : Inv C.X pins σ (upd H h'.objs.size (LamO L (cloFrom C.X.env.cells L.scope.names []) c' h'.objs.size)) { s with heap := h'.push (PySem.W.kla_obj "<lambda>" (C.X.env.qual ++ "<lambda>") L.params L.body L.scope (cloFrom C.X.env.cells L.scope.names []) ((C.X.mg "__name__").getD .none) c' ctv), toks := tk } := by
      refine I.laid (fun b o e => Heap.get?_push_of_some _ (hx b o e)) hsz ?_
      have g := Heap.get?_push_size h' (o := PySem.W.kla_obj "<lambda>" (C.X.env.qual ++ "<lambda>") L.params L.body L.scope (cloFrom C.X.env.cells L.scope.names []) ((C.X.mg "__name__").getD .none) c' ctv) rfl
      exact ⟨⟨_, ctv, by rw [mq]; exact g⟩, ⟨_, g⟩, fun h1 h2 ⟨pm, ct, z⟩ st => ⟨pm, ct, st _ z⟩⟩
    have kp : ∀ b o, H b = some o → upd H h'.objs.size (LamO L (cloFrom C.X.env.cells L.scope.names []) c' h'.objs.size) b = some o := fun b o e => by rw [upd_ne (ne_of_none e nf)]; exact e
    exact h h'.objs.size c' _ _ upd_same (kp _ _ hco) I1 (fun b o e _ => kp b o e) (fun b ps e => ⟨ps, kp _ _ e⟩) (hT.ext kp)
  | none =>
    refine PySem.W.kla_makeFunction (P := P) (c := c) (mg := C.X.mg) (ps := ps) (closure_ok hfree) I.ok.glob (I.mod.glob.keeps I.bk) hcode (TB.code.keeps I.bk) hP' ht hc TB.gP bP fun c' ctv h' tk hx hge hlt hrec htb => ?_
    obtain ⟨c2, oc, vs, t, e2, hoc, hd, hv⟩ := hrec
    cases e2
    have hsz : s.heap.objs.size ≤ h'.objs.size := Nat.le_trans hge (Nat.le_of_lt hlt)
    have nC : H c' = none := I.hok.fresh hge
    have nPc : P ≠ c' := ne_of_none hP nC
    obtain ⟨H1, eH1⟩ : ∃ H1 : Hp, H1 = upd (upd H P (.tbl (ps ++ #[rawInt pos.line, rawInt pos.col, .ref c']))) c' (LamX.CodeO c' L.qual) := ⟨_, rfl⟩
    have I1 : Inv C.X pins σ H1 { s with heap := h', toks := tk } := by
      rw [eH1]
      exact LamX.inv_table I hP (fun b o hb e => hx b o hb e) htb hge ⟨oc, vs, t, hoc, hd, by rw [mq]; exact hv⟩
    have nf : H1 h'.objs.size = none := I1.hok.fresh (Nat.le_refl _)
    have I2 : Inv C.X pins σ (upd H1 h'.objs.size (LamO L (cloFrom C.X.env.cells L.scope.names []) c' h'.objs.size)) { s with heap := h'.push (PySem.W.kla_obj "<lambda>" (C.X.env.qual ++ "<lambda>") L.params L.body L.scope (cloFrom C.X.env.cells L.scope.names []) ((C.X.mg "__name__").getD .none) c' ctv), toks := tk } := by
      refine I1.laid (fun b o e => Heap.get?_push_of_some _ e) (Nat.le_refl _) ?_
      have g := Heap.get?_push_size h' (o := PySem.W.kla_obj "<lambda>" (C.X.env.qual ++ "<lambda>") L.params L.body L.scope (cloFrom C.X.env.cells L.scope.names []) ((C.X.mg "__name__").getD .none) c' ctv) rfl
      exact ⟨⟨_, ctv, by rw [mq]; exact g⟩, ⟨_, g⟩, fun h1 h2 ⟨pm, ct, z⟩ st => ⟨pm, ct, st _ z⟩⟩
    have up : ∀ b o, H1 b = some o → upd H1 h'.objs.size (LamO L (cloFrom C.X.env.cells L.scope.names []) c' h'.objs.size) b = some o := fun b o e => by rw [upd_ne (ne_of_none e nf)]; exact e
    have kp : ∀ b o, H b = some o → (∀ ps, o ≠ .tbl ps) → H1 b = some o := fun b o e n => by
      rw [eH1, upd_ne (ne_of_none e nC), upd_ne (fun z => by rw [z, hP] at e; exact n ps (Option.some.inj e).symm)]
      exact e
    have at_P : H1 P = some (.tbl (ps ++ #[rawInt pos.line, rawInt pos.col, .ref c'])) := by rw [eH1, upd_ne nPc, upd_same]
    have at_c : H1 c' = some (LamX.CodeO c' L.qual) := by rw [eH1, upd_same]
    have tabs1 : LamX.Tabs C.Γ.tabs H1 := fun p hp => by
      by_cases hb : p.1 = P
      · rw [hu p hp hb, hb]
        have eL : (ps ++ #[rawInt pos.line, rawInt pos.col, Value.ref c']).toList = ps.toList ++ [rawInt pos.line, rawInt pos.col, .ref c'] := by simp
        refine ⟨_, at_P, by rw [eL]; exact PySem.TriplesOk_snoc _ _ _ _ ht, fun p' cv hcv => ?_⟩
        rw [eL] at hcv
        rcases LamX.among_app _ ht hcv with z | z
        · obtain ⟨c0, e1, e2⟩ := ha p' cv z
          exact ⟨c0, e1, kp _ _ e2 LamX.codeO_ne⟩
        · exact ⟨c', z, at_c⟩
      · obtain ⟨ps', a1, a2, a3⟩ := hT p hp
        refine ⟨ps', by rw [eH1, upd_ne (ne_of_none a1 nC), upd_ne hb]; exact a1, a2, fun p' cv hcv => ?_⟩
        obtain ⟨c0, e1, e2⟩ := a3 p' cv hcv
        exact ⟨c0, e1, kp _ _ e2 LamX.codeO_ne⟩
    refine h h'.objs.size c' _ _ upd_same (up _ _ at_c) I2 (fun b o e n => up b o (kp b o e n)) (fun b ps' e => ?_) (tabs1.ext up)
    by_cases hb : b = P
    · exact ⟨_, up _ _ (by rw [hb]; exact at_P)⟩
    · exact ⟨ps', up _ _ (by rw [eH1, upd_ne (ne_of_none e nC), upd_ne hb]; exact e)⟩
/-- lambda: .. -/
theorem se_lam {k : Nat} {L : LamI} {l : List Nat} {pos : Pos} (hf : C.flag = true) (hk : C.Γ.lam k L) (M : LamM C L l) :
    PE C.X (.Lambda L.params L.body L.scope pos) (tE C fun ρ h => match capVals ρ l with
      | some vs => if PV.noClos vs then .ok (.clo k vs) h else .err
      | none => .err) := by
  refine ⟨fun pins s σ H Q I ⟨φ, ρ, h, rl, po⟩ => ?_⟩
  dsimp only at po
  cases ec : capVals ρ l with
  | none => rw [ec] at po; exact po.elim
  | some vs =>
    rw [ec] at po
    obtain ⟨nc, po⟩ := Po.if_ (show Po C φ σ H (if PV.noClos vs = true then _ else _) _ from po)
    obtain ⟨Vs, r1, l1, k1⟩ := capVals_ok rl.re ec
    refine lam_new M I rl.hr.tabs fun f c' H1 s' e1 e2 I1 kp tb tabs => ?_
    have st : Stp φ φ H H1 := ⟨fun _ _ z => z, fun _ z => .inl z, fun b o e n _ => kp b o e n, tb⟩
    have hr1 : HR C.Γ φ H1 (C.W σ H1) h := ⟨rl.hr.len, fun n o a q1 q2 => (rl.hr.at_ n o a q1 q2).mono st (Ct.wm st) fun vs e => kp a _ e (fun _ z => nomatch z), rl.hr.inj, tabs⟩
    have cm : ∀ {y c}, (cloFrom C.X.env.cells L.scope.names []).lookup y = some c → C.X.env.cells.lookup y = some c ∧ y ∈ L.names := fun {y c} e => by
      rcases cloFrom_mem (PySem.mem_of_lookup e) with hm | ⟨h1, h2⟩
      · cases hm
      · have hy := M.free _ h1 rfl
        obtain ⟨c1, hc⟩ := I.ok.has y (.inl (M.cell hy))
        have hc : C.X.env.cells.lookup y = some c1 := hc
        have e2 : c = c1 := by rw [h2, hc] <;> rfl
        rw [e2]
        exact ⟨hc, hy⟩
    refine ⟨.ref f, H1, I1, rfl, po φ H1 st hr1 (.ref f) ?_⟩
    simp only [VR]
    refine ⟨L, f, c', _, Vs, hk, rfl, e1, e2, ⟨fun x y c a b => I.ok.inj x y c (cm a).1 (cm b).1, fun x c a => (cm a).2⟩, VRs.mono st (Ct.wm st) _ _ r1, by rw [l1, M.len], fun i x u a b => ?_⟩
    have hx := List.mem_of_getElem? a
    have hi : i < l.length := by rw [M.len]; exact (List.getElem?_eq_some_iff.mp a).1
    obtain ⟨m1, m2, m3⟩ := M.at_ i l[i] x (List.getElem?_eq_getElem hi) a
    obtain ⟨c, hc⟩ := mem_lookup (cloFrom_has (cells := C.X.env.cells) (acc := []) (PySem.mem_of_lookup (M.fr x hx)))
    exact ⟨c, hc, .inr ⟨hf, l[i], x, m1, k1 i l[i] u (List.getElem?_eq_getElem hi) b, (cm hc).1, .inl ⟨m2, m3⟩⟩⟩
end
end EV
set_option linter.all false
set_option maxRecDepth 100000
set_option maxHeartbeats 1000000
/-! Ev11: the program's errors: made, told apart, read. -/
namespace EV
open PySem PySem.Spec PySem.Calls PyProof.Rows

/-- the body of the __init__ -/
def initBody : List Stmt :=
  [.Expr (.Call (.Attribute (.Call (.Name "super" ⟨5, 8, 5, 13⟩) [] [] ⟨5, 8, 5, 15⟩) "__init__" ⟨5, 8, 5, 24⟩) [.Name "value" ⟨5, 25, 5, 30⟩] [] ⟨5, 8, 5, 31⟩) ⟨5, 8, 5, 31⟩,
    .Assign [.Attribute (.Name "self" ⟨6, 8, 6, 12⟩) "value" ⟨6, 8, 6, 18⟩] (.Name "value" ⟨6, 21, 6, 26⟩) ⟨6, 8, 6, 26⟩]
def initScope : Scope := { kind := .function, names := [("self", .local), ("value", .local), ("__class__", .free), ("super", .globalImplicit)], isGenerator := false, isCoroutine := false, more := [] }
def initArgs : Arguments := { posonlyargs := [], args := [{ arg := "self", annotation := none, pos := ⟨4, 17, 4, 21⟩ }, { arg := "value", annotation := none, pos := ⟨4, 23, 4, 28⟩ }], vararg := none, kwonlyargs := [], kw_defaults := [], kwarg := none, defaults := [] }
/-- the __init__ of the errors, in the written part -/
structure InitF (prog : Program) (K : PySem.W.Frag) (mg : Str → Option Value) (D fI cc : Addr) : Prop where
  fn : ∃ oc od osl qual doc pm an ct cda, K.lookup fI = some ⟨oc, od, .func (PySem.W.ksFn "__init__" qual initArgs initBody initScope .none .none doc pm an (.ref cda) ct cc), osl⟩ ∧
    PySem.W.codeIn K (.ref cda) qual = true ∧ ∃ ccl cdd vs ccs file tf, K.lookup cda = some ⟨ccl, cdd, .fields vs, ccs⟩ ∧ vs[2]? = some (.str file tf) ∧ ((prog.main.file : Str) == file) = true
  cell : ∃ cl cld csl, K.lookup cc = some ⟨cl, cld, .cell (some (.ref D)), csl⟩
  cls : ∃ cdD, PySem.W.clsIn K D = some cdD
  top : (prog.main.scope.names.lookup ("super" : Str)).isSome = false
  sup : mg "super" = none
  op : PySem.W.nsIn K cStatics "thirdparty.any" = some none
/-- a class of the errors -/
structure ClsF (K : PySem.W.Frag) (D C : Addr) : Prop where
  ox : L2.OexC K C
  sub : PySem.W.mroIn K C (.ref D) = some true
  sup : PySem.W.ks_superIn K C D "__init__" = some (some (.builtin "ValueError.__init__"))
  ve : PySem.W.subIn K (.ref C) (.type "ValueError") = some true
  val : PySem.W.findIn K (.ref C) "value" = some none

section
variable {prog : Program} {w : World} {A : Around} {E : Value → Shared → Prop} {h : Heap} {g : Array GenState} {d : Drawn} {t : Nat} {os : OsState}
variable {nm q : Str} {C N : Addr} {bs bm : List Value} {hdct : Bool} {sn : List Str} {sub : List Value} {ab : Bool} {col : Option Bool} {dd : Option Addr} {k0 k1 k2 k3 k5 : Option Value}
/-- ValueError.__init__ bound to x, called -/
theorem mw_call {u x t0 : Addr} {rest : List Value} {Q : Value → Shared → Prop} (hC : h.get? C = some (excClassObj nm q C N bs bm hdct sn sub ab col dd k0 k1 k2 k3 k5 "ValueError.__new__")) (hx : h.get? x = some (PySem.W.excObj C t0 none .none)) (hu : h.get? u = some (PySem.W.kxs_mw "ValueError.__init__" x)) (hz : rest.length ≤ sizeLine)
    (hq : ∀ h', (∀ b o, b ≠ x → h.get? b = some o → h'.get? b = some o) → h'.get? x = some (PySem.W.excObj C h.objs.size none .none) → h'.get? h.objs.size = some (PySem.W.excTup rest) → Q .none ⟨h', g, d, t, os⟩) :
    wpAny (model prog w) A (call (.ref u) rest) Q E ⟨h, g, d, t, os⟩ := by
  refine wpAny_call (codeAny_of_tree ?_)
  show wpAny _ _ (callAny (.ref u) ⟨rest, []⟩) _ _ _
  simp only [callAny]
  refine wpAny_bind (wpAny_load hu ?_)
  simp only [PySem.W.kxs_mw, show (Value.type "method-wrapper" == Value.type "method" || Value.type "method-wrapper" == Value.type "builtin_function_or_method" || Value.type "method-wrapper" == Value.type "method-wrapper") = true by decide, if_true]
  refine PySem.W.KFB.if_so (by decide) ?_
  refine wpAny_bind (PySem.W.check_bound_init PySem.F.excBase_ValueError.toExcCallFacts hC hx rfl ?_)
  refine wpAny_bind (wpAny_pure (wpAny_pure ?_))
  refine ⟨plainId_quiet PySem.F.excBase_ValueError.init.plain _, codeAny_builtin PySem.F.excBase_ValueError.initEntry ?_⟩
  exact PySem.W.exc_init_tree (cls := .ref C) (t0 := t0) (dv := none) (c2 := .none) (c3 := .none) (b4 := .bool false) hx hz hq
end
section
variable {prog : Program} {w : World} {A : Around} {R : Result → Shared → Prop} {h : Heap} {g : Array GenState} {d : Drawn} {t : Nat} {os : OsState} {K : PySem.W.Frag} {mg : Str → Option Value} {D fI cc C x t0 : Addr} {v : Value}
theorem init_run (F : InitF prog K mg D fI cc) (T : ClsF K D C) (X : K.In h) (hg : h.Ns mainGlobals mg) (hb : ∃ mb, h.Ns builtinsNs mb ∧ ∀ x : Str, x ≠ "__name__" → mb x = bootBuiltins x) (lim : h.NoLimit) (room : A.depth < recursionLimit)
    (hx : h.get? x = some (PySem.W.excObj C t0 none .none)) (nK : K.lookup x = none)
    (hq : ∀ h' t' dx t1, (∀ b o, b ≠ x → h.get? b = some o → h'.get? b = some o) → h.get? t1 = none → h.get? dx = none → dx ≠ t1 → t1 ≠ x → dx ≠ x → h'.get? x = some (PySem.W.excObj C t1 (some dx) .none) → h'.get? t1 = some (PySem.W.excTup [v]) →
      h'.Ns1 dx (fun y => if y = "value" then some v else none) → R (.ok (.ret .none)) ⟨h', g, d, t', os⟩) :
    codeAny (model prog w) A (.call (.ref fI) ⟨[.ref x, v], []⟩) R ⟨h, g, d, t, os⟩ := by
  obtain ⟨oc, od, osl, qual, doc, pm, an, ct, cda, lk, hcd, ccl, cdd, vs, ccs, file, tf, lkc, hvs, hfile⟩ := F.fn
  obtain ⟨cl, cld, csl, lcell⟩ := F.cell
  obtain ⟨cdD, hD⟩ := F.cls
  obtain ⟨mb, hmb, hmb2⟩ := hb
  refine ks_codeAny_call_defAt (fd := PySem.W.ksFn "__init__" qual initArgs initBody initScope .none .none doc pm an (.ref cda) ct cc) (body := initBody)
    (binds := [("self", .ref x), ("value", v)]) room (X _ _ lk) rfl lim (PySem.W.codeRec_of X hcd) rfl (BindsTo.of_eq rfl) (show ∀ x ∈ initScope.names, x.2 ≠ .cell by decide) (by intro y hy; simp at hy; rcases hy with rfl | rfl <;> rfl) (fun h0 hns hk => ?_)
  generalize hL : h.objs.size = L at hns
  have X0 : K.In h0 := X.keeps hk
  refine ks_wpAt_execs_cons (ks_wpAt_Expr_any ?_)
  refine ks_wpAt_MethodCall ?_
  refine ks_wpAt_super_base rfl rfl rfl rfl (X0 _ _ lk) rfl rfl rfl (X0 _ _ lkc) rfl hvs hfile F.top ?_
  refine PySem.W.ks_loadName_global rfl rfl (loadGlobal_builtin (hg.keeps hk) F.sup (hmb.keeps hk) ((hmb2 _ (by decide)).trans (by first | rfl | kernel_rfl)) ⟨rfl, ?_⟩)
  refine wpAny_loadName_free rfl rfl rfl ⟨_, X0 _ _ lcell, rfl⟩ ?_
  obtain ⟨oD, hD1, hD2⟩ : ∃ oD, h0.get? D = some oD ∧ oD.data = .cls cdD := by
    unfold PySem.W.clsIn at hD
    split at hD
    · rename_i c d cd' sl ho
      cases hD
      exact ⟨_, X0 _ _ ho, rfl⟩
    · cases hD
  have hns' : h0.Ns L (fun y => [(("value" : Str), v), (("self" : Str), Value.ref x)].lookup y) := hns
  have hx0 := hk _ _ hx
  refine wpAny_loadName_local rfl rfl hns' rfl ?_
  refine ks_wpAny_isType_cls hD1 hD2 ⟨rfl, ?_⟩
  refine ks_wpAny_call_super hD1 hD2 hx0 rfl (fun c e => by cases e) (PySem.W.looks_mroIn X0 T.sub) fun h1 e1 k1 => ?_
  generalize hso : h0.objs.size = so at e1
  have X1 : K.In h1 := X0.keeps k1
  have hx1 := k1 _ _ hx0
  obtain ⟨nm, q, N, bs, bm, sn, sub, ab, col, dd, c0, c1, c2, c3, c5, hC, hbm⟩ := T.ox.cls
  have hcl : PySem.W.clsIn K C = some { name := nm, bases := bs, mro := .ref C :: bm, ns := N, qualname := q, hasDict := true, slotNames := sn, subclasses := sub, abstract := ab, collection := col, hasDel := false } := by unfold PySem.W.clsIn; rw [hC] <;> rfl
  have hsup := T.sup
  unfold PySem.W.ks_superIn at hsup
  rw [hcl] at hsup
  have I1 : PySem.W.InstAt h1 x (PySem.W.excObj C t0 none .none) C none := ⟨hx1, rfl, rfl, trivial⟩
  have hxC : x ≠ C := PySem.W.ks_ne X1 I1 hcl
  refine PySem.W.kxs_getMethod PySem.W.kxs_ValueError e1 (PySem.W.looks_opaque X1 F.op) ((PySem.W.looks_clsIn X1 hcl).andThen .now) rfl X1 hsup (I1.type.andThen (PySem.W.looks_subIn X1 T.ve)) hxC rfl ?_
  have lt : ∀ {b : Addr} {o : Obj}, h1.get? b = some o → (h1.push (PySem.W.kxs_mw "ValueError.__init__" x)).get? b = some o := fun e => Heap.get?_push_of_some _ e
  generalize hu : h1.objs.size = u
  have e2 : (h1.push (PySem.W.kxs_mw "ValueError.__init__" x)).get? u = some (PySem.W.kxs_mw "ValueError.__init__" x) := by rw [← hu]; exact Heap.get?_push_at rfl rfl
  have ns2 : (h1.push (PySem.W.kxs_mw "ValueError.__init__" x)).Ns L (fun y => [(("value" : Str), v), (("self" : Str), Value.ref x)].lookup y) := hns'.keeps fun b o e => lt (k1 b o e)
  refine PySem.W.kxs_callWith (i := "ValueError.__init__") (x := x) rfl (evalArgs_plain ?_)
  refine spliced_cons (wpAny_Name (wpAny_loadName_local rfl rfl ns2 rfl (spliced_nil ⟨e2, ?_⟩)))
  -- the call of ValueError.__init__ bound to it
  have hC2 := lt (X1 _ _ hC)
  have hx2 := lt hx1
  refine mw_call hC2 hx2 e2 (show [v].length ≤ sizeLine from by rw [sizeLine_eq]; simp) fun h3 k3 e3 e4 => ?_
  generalize hh2 : h1.push (PySem.W.kxs_mw "ValueError.__init__" x) = h2 at k3 e3 e4 ns2 hC2 hx2 lt
  have hxL : L ≠ x := by
    intro z
    have := Heap.lt_size hx
    rw [hL, z] at this
    exact absurd this (Nat.lt_irrefl _)
  have ns3 : h3.Ns L (fun y => [(("value" : Str), v), (("self" : Str), Value.ref x)].lookup y) := by
    obtain ⟨oL, es, ep, hl, r⟩ := ns2
    exact ⟨oL, es, ep, k3 _ _ hxL hl, r⟩
  have k23 : ∀ b o, b ≠ x → h.get? b = some o → h3.get? b = some o := fun b o hb e => k3 b o hb (lt (k1 b o (hk b o e)))
  have X3 : K.In h3 := fun b o e => k23 b o (fun z => by
    rw [z, nK] at e
    cases e) (X b o e)
  refine ks_wpAt_execs_cons (ks_wpAt_Assign_Attr (wpAt_of_wpAny (wpAny_Name (wpAny_loadName_local rfl rfl ns3 rfl (wpAny_Name (wpAny_loadName_local rfl rfl ns3 rfl ?_))))))
  refine PySem.W.set_plain X3 (ox := PySem.W.excObj C h2.objs.size none .none) (od := none) ⟨e3, rfl, rfl, trivial⟩ T.ox.sa ?_
  refine PySem.HandSPX.exc_osa X3 e3 hcl (show PySem.HandSPX.refsVE (.ref C :: bm) = true from hbm) rfl T.val (fun h4 t4 dx k4 dn dne hx4 hn4 => ?_)
  have n1 : h.get? h2.objs.size = none := by
    cases z : h.get? h2.objs.size with
    | none => rfl
    | some o => exact absurd (Heap.lt_size (lt (k1 _ _ (hk _ _ z)))) (Nat.lt_irrefl _)
  have n2 : h.get? dx = none := by
    cases z : h.get? dx with
    | none => rfl
    | some o => exact absurd (Heap.lt_size (k23 _ _ dne z)) (Nat.not_lt.mpr dn)
  have n3 : h2.objs.size ≠ x := fun z => by
    rw [z, hx] at n1
    cases n1
  exact wpAt_of_wpAny (wpAny_execs_nil (hq h4 t4 dx h2.objs.size (fun b o hb e => k4 b o hb (k23 b o hb e)) n1 n2 (fun z => by
    have := Heap.lt_size e4
    rw [← z] at this
    exact absurd this (Nat.not_lt.mpr dn)) n3 dne hx4 (k4 _ _ n3 e4) hn4))
end

open L2
section
variable {X : Cx} {pins : List (Addr × Obj)} {σ : L2.St} {H H' : Hp} {s : Shared} {h' : Heap}
/-- new objects laid, whatever is tracked of them -/
theorem inv_new {t' : Nat} (I : Inv X pins σ H s) (k : ∀ b o, s.heap.get? b = some o → h'.get? b = some o) (old : ∀ b o, H b = some o → H' b = some o) (same : ∀ b o, s.heap.get? b = some o → H b = none → H' b = none)
    (new : ∀ b o, H' b = some o → H b = some o ∨ ObjOk X.prog X.w H' h' b o) : Inv X pins σ H' { s with heap := h', toks := t' } := by
  refine I.un ⟨fun b o e _ _ _ => k b o e, fun b o e _ _ _ => ⟨o.slots, k b o e⟩, fun b o e n _ => same b o e n, fun b o e _ => ⟨o, k b o e⟩, fun b xs e => old b _ e, fun b o u e => old b _ e, fun b ps e => ⟨#[], by rw [old b _ e]; simp⟩⟩ fun b o e => ?_
  rcases new b o e with q | q
  · exact (I.hok b o q).stay (fun c u _ z => k c u z) (fun c hc => old c _ hc) fun c xs hc => old c _ hc
  · exact q
/-- C(v) of an error's class -/
theorem make_run {D C fI cc : Addr} {k : Nat} {u : Value} {Q : Value → Shared → Prop} (F : InitF X.prog X.K X.mg D fI cc) (T : ClsF X.K D C) (iC : PySem.W.findIn X.K (.ref C) "__init__" = some (some (.ref fI))) (tI : PySem.W.typeIn X.K (.ref fI) = some (.type "function")) (hr : Room (k + 1) X.A)
    (I : Inv X pins σ H s)
    (hq : ∀ h' t' a dx t1, (∀ b o, s.heap.get? b = some o → h'.get? b = some o) → s.heap.get? a = none → s.heap.get? t1 = none → s.heap.get? dx = none → dx ≠ t1 → t1 ≠ a → dx ≠ a → h'.get? a = some (PySem.W.excObj C t1 (some dx) .none) → h'.get? t1 = some (PySem.W.excTup [u]) →
      h'.Ns1 dx (fun y => if y = "value" then some u else none) → Q (.ref a) { s with heap := h', toks := t' }) :
    wpAny (model X.prog X.w) X.A (call (.ref C) [u]) Q X.xe s := by
  obtain ⟨nm, q, N, bs, bm, sn, sub, ab, col, dd, k0, k1, k2, k3, k5, hC, hbm⟩ := T.ox.cls
  have hin := I.kIn
  have hgl := I.mod.glob.keeps I.bk
  obtain ⟨mb, hb1, hb2⟩ := I.mod.blt
  have hbl := hb1.keeps I.bk
  have hlm := I.nolimit
  have hnK : ∀ a, s.heap.objs.size ≤ a → X.K.lookup a = none := fun a ha => by
    cases e : X.K.lookup a with
    | none => rfl
    | some o => exact absurd (Heap.lt_size (hin _ _ e)) (Nat.not_lt.mpr ha)
  obtain ⟨hp, g, dr, tk, os⟩ := s
  have kk : ∀ b o, hp.get? b = some o → ((hp.push (PySem.W.kdv_tup [u])).push (PySem.HandSPX.excO C hp.objs.size)).get? b = some o := fun b o e => Heap.get?_push_of_some _ (Heap.get?_push_of_some _ e)
  have hget : ((hp.push (PySem.W.kdv_tup [u])).push (PySem.HandSPX.excO C hp.objs.size)).get? (hp.objs.size + 1) = some (PySem.HandSPX.excO C hp.objs.size) := by heap_get
  refine wpAny_call (PySem.HandSPX.call_own PySem.F.excBase_ValueError (fun Y => PySem.HandSPX.refsVE_contains Y bm hbm) (hin _ _ hC) (PySem.W.looks_findIn hin iC) (fun self => PySem.W.bind_fn hin self tI) (show [u].length ≤ sizeLine from by rw [sizeLine_eq]; simp) ?_)
  have hm := hr.make C [u] []
  refine init_run F T (hin.keeps kk) (hgl.keeps kk) ⟨mb, hbl.keeps kk, hb2⟩ (hlm.keeps kk) (by have := hm.dp; omega) hget (hnK _ (Nat.le_succ _)) fun h' t' dx t1 k' n1 n2 d1 d2 d3 e1 e2 e3 => ?_
  have none_ : ∀ b, ((hp.push (PySem.W.kdv_tup [u])).push (PySem.HandSPX.excO C hp.objs.size)).get? b = none → hp.get? b = none := fun b n => by
    cases z : hp.get? b with
    | none => rfl
    | some o => rw [kk b o z] at n; cases n
  have na : hp.get? (hp.objs.size + 1) = none := Heap.get?_none_of_le (Nat.le_succ _)
  refine ⟨rfl, ?_⟩
  exact hq h' t' (hp.objs.size + 1) dx t1 (fun b o e => k' b o (fun z => by rw [z, na] at e; cases e) (kk b o e)) na (none_ _ n1) (none_ _ n2) d1 d2 d3 e1 e2 e3
end

section
variable {C : Ct}
/-- an error is made -/
theorem se_exn {F0 : Cfg} {c : Nat} {D fI cc : Addr} {k : Nat} {x : Str} {e : Expr} {p pos : Pos} {f} (F : InitF C.X.prog C.X.K C.X.mg D fI cc) (T : ClsF C.X.K D (C.Γ.clsA c)) (iC : PySem.W.findIn C.X.K (.ref (C.Γ.clsA c)) "__init__" = some (some (.ref fI))) (tI : PySem.W.typeIn C.X.K (.ref fI) = some (.type "function")) (hr : Room (k + 1) C.X.A)
    (hg : Gl C.X x) (hm : C.X.mg x = some (.ref (C.Γ.clsA c))) (hdb : (x == ("__debug__" : Str)) = false) (hs : isStar e = false) (he : PE C.X e (tE C f)) :
    PE C.X (.Call (.Name x p) [e] [] pos) (tE C fun ρ h => (f ρ h).bnd fun v h => .ok (.exc true c v) h) := by
  refine ⟨fun pins s σ H Q I ⟨φ, ρ, h, rl, po⟩ => ?_⟩
  refine wpAny_Call_Name_kw (ld_glob I hg hm ?_ hdb)
  have hA := (pa_one hs he).run pos pins s σ H (fun vs H1 => ∃ V, vs = [V] ∧ ∃ v φ' h', Po C φ' σ H1 (.ok (.exc true c v) h') (fun v φ' _ H' => ∀ V, VR C.Γ φ' H' (C.W σ H') v V → Q V H') ∧ HR C.Γ φ' H1 (C.W σ H1) h' ∧ VR C.Γ φ' H1 (C.W σ H1) v V) I
    (tE.mk rl (po.bnd.imp fun v φ1 h1 H1 s1 hr1 p1 V vr rl1 => ⟨V, rfl, v, φ1, h1, p1, hr1, vr⟩))
  refine PySem.W.callWith_K (h₀ := C.X.base) I.ok.mod.kin T.ox.kC (thn hA fun us s1 ⟨vs, H1, I1, r1, V, ev, v, φ1, h1, p1, hr1, vr⟩ => ⟨I1.kIn, ?_⟩) (starEach_cons hs) rfl
  subst ev
  obtain ⟨u, rfl, ru⟩ := Vals.one r1
  refine make_run F T iC tI hr I1 fun h' t' a dx t1 k' na n1 n2 d1 d2 d3 e1 e2 e3 => ?_
  have Ha := I1.hok.gone na
  have Ht := I1.hok.gone n1
  have Hd := I1.hok.gone n2
  generalize hH : upd (upd (upd H1 t1 (.tup [V])) dx (.xd [("value", V)])) a (ExA (.ref (C.Γ.clsA c)) dx t1 a) = H2
  have ga : H2 a = some (ExA (.ref (C.Γ.clsA c)) dx t1 a) := by rw [← hH, upd_same]
  have gd : H2 dx = some (.xd [("value", V)]) := by rw [← hH, upd_ne d3, upd_same]
  have gt : H2 t1 = some (.tup [V]) := by rw [← hH, upd_ne d2, upd_ne (Ne.symm d1), upd_same]
  have go : ∀ b, b ≠ a → b ≠ dx → b ≠ t1 → H2 b = H1 b := fun b q1 q2 q3 => by rw [← hH, upd_ne q1, upd_ne q2, upd_ne q3]
  have ne : ∀ {b o}, H1 b = some o → b ≠ a ∧ b ≠ dx ∧ b ≠ t1 := fun {b o} e => ⟨ne_of_none e Ha, ne_of_none e Hd, ne_of_none e Ht⟩
  have I2 : Inv C.X pins σ H2 { s1 with heap := h', toks := t' } := inv_new I1 k' (fun b o e => by obtain ⟨q1, q2, q3⟩ := ne e; rw [go b q1 q2 q3]; exact e)
    (fun b o e n => by
      have q : ∀ {z}, s1.heap.get? z = none → b ≠ z := fun {z} nz y => by rw [y, nz] at e; cases e
      rw [go b (q na) (q n2) (q n1)]
      exact n)
    (fun b o e => by
      by_cases q1 : b = a
      · subst q1
        rw [ga] at e; cases e
        exact .inr ⟨e1, ⟨_, e1⟩, fun h1 h2 z k => k _ z⟩
      · by_cases q2 : b = dx
        · subst q2
          rw [gd] at e; cases e
          refine .inr ⟨_, e3, fun g => ?_⟩
          exact relO_put (fs := []) ru (mA := fun _ => none) (fun g => True.intro) g
        · by_cases q3 : b = t1
          · subst q3
            rw [gt] at e; cases e
            exact .inr ⟨by rw [sizeLine_eq]; simp, [u], .cons ru .nil, _, e2, rfl, 0, rfl⟩
          · rw [go b q1 q2 q3] at e
            exact .inl e)
  have st : Stp φ1 φ1 H1 H2 := ⟨fun _ _ z => z, fun _ z => .inl z, fun b o e _ _ => by obtain ⟨q1, q2, q3⟩ := ne e; rw [go b q1 q2 q3]; exact e, fun b ps e => ⟨ps, by obtain ⟨q1, q2, q3⟩ := ne e; rw [go b q1 q2 q3]; exact e⟩⟩
  have hr2 : HR C.Γ φ1 H2 (C.W σ H2) h1 := ⟨hr1.len, fun n o b e1 e2 => (hr1.at_ n o b e1 e2).mono st (Ct.wm st) fun vs e => by obtain ⟨q1, q2, q3⟩ := ne e; rw [go b q1 q2 q3]; exact e, hr1.inj, hr1.tabs.ext fun b o e => by obtain ⟨q1, q2, q3⟩ := ne e; rw [go b q1 q2 q3]; exact e⟩
  refine ⟨.ref a, H2, I2, rfl, p1 φ1 H2 st hr2 (.ref a) ?_⟩
  simp only [VR]
  exact ⟨a, dx, V, rfl, ⟨t1, ga, SqT.of gt⟩, gd, VR.mono st (Ct.wm st) _ _ vr⟩
end
end EV
set_option linter.all false
set_option maxRecDepth 100000
set_option maxHeartbeats 1000000
/-! Ev12: isinstance, an error's value. -/
namespace EV
open PySem PySem.Spec PySem.Calls PyProof.Rows L2

def Ty.name : Ty → String
  | .int => "int"
  | .bool => "bool"
  | .str => "str"
  | .tuple => "tuple"
  | .list => "list"
  | .verr => "ValueError"
def Ty.sname : Ty → Str
  | .int => "int"
  | .bool => "bool"
  | .str => "str"
  | .tuple => "tuple"
  | .list => "list"
  | .verr => "ValueError"
/-- what isinstance asks of an error's class -/
structure ClsI (K : PySem.W.Frag) (C : Addr) : Prop where
  ic : ExcC K C
  ve : PySem.W.kitOne K (.ref C) (.type "ValueError") = some true
  val : PySem.W.findIn K (.ref C) "value" = some none
section
variable {X : Cx} {Γ : Gm} {φ : List Addr} {H : Hp} {W : Cw} {s : Shared} {pins : List (Addr × Obj)} {σ : L2.St}
/-- an error as it lies -/
theorem exc_inst (I : Inv X pins σ H s) {p : Bool} {c : Nat} {v : PV} {V} (h : VR Γ φ H W (.exc p c v) V) :
    ∃ a d y oe od, V = .ref a ∧ PySem.W.InstAt s.heap a oe (Γ.clsA c) (some od) ∧ H d = some (.xd [("value", y)]) ∧ VR Γ φ H W v y ∧ s.heap.get? d = some od ∧ ∃ vs, oe.data = .fields vs := by
  simp only [VR] at h
  obtain ⟨a, d, y, rfl, h1, h2, h3⟩ := h
  have hx : ObjOk X.prog X.w H s.heap d (.xd [("value", y)]) := I.hok d _ h2
  obtain ⟨mA, hns, hr⟩ := hx
  obtain ⟨od, ho, hl⟩ := lookIn_ns hns
  have key : ∃ (oe : Obj) (vs : Array Value), s.heap.get? a = some oe ∧ Zc (.ref (Γ.clsA c)) (some d) oe ∧ oe.data = .fields vs := by
    cases p with
    | false =>
      have z : ObjOk X.prog X.w H s.heap a (ExD (.ref (Γ.clsA c)) d a) := I.hok a _ h1
      exact z.1
    | true =>
      obtain ⟨t0, h4, _⟩ := h1
      have z : ObjOk X.prog X.w H s.heap a (ExA (.ref (Γ.clsA c)) d t0 a) := I.hok a _ h4
      exact ⟨_, _, z.1, ⟨rfl, rfl⟩, rfl⟩
  obtain ⟨oe, vs, g1, g2, g3⟩ := key
  exact ⟨a, d, y, oe, od, rfl, ⟨g1, g2.1, by unfold PySem.W.notCls; rw [g3] <;> rfl, by rw [g2.2]; exact ho⟩, h2, h3, ho, vs, g3⟩
theorem kit_exc (I : Inv X pins σ H s) {p : Bool} {c : Nat} {v : PV} {V u} (h : VR Γ φ H W (.exc p c v) V) (r : RelV V u) (ic : ExcC X.K (Γ.clsA c)) : ∃ P : Heap → Prop, PySem.W.KitX X.K u (.ref (Γ.clsA c)) P ∧ P s.heap ∧ u ≠ .builtin "__main__.__loader__#opaque" := by
  obtain ⟨a, d, y, oe, od, rfl, J, _⟩ := exc_inst I h
  obtain rfl : u = Value.ref a := r
  obtain ⟨cd, hc, _⟩ := PySem.W.any_some ic.hd
  exact ⟨_, PySem.W.kitx_exc (by rw [hc]; rfl) ic.hg ic.hk ic.hs ic.ha ic.hn ic.ht ic.hm, J, fun z => nomatch z⟩
end
section
variable {C : Ct}
/-- isinstance by the evaluator's values: an error -/
theorem call_isx (ics : ∀ c, ExcC C.X.K (C.Γ.clsA c)) (cv : Value) : CallR C.X (.builtin "isinstance") (fun xs H Q => ∃ φ W p c v V U b, xs = [V, U] ∧ ClsV U cv ∧ VR C.Γ φ H W (.exc p c v) V ∧ PySem.W.kitOne C.X.K (.ref (C.Γ.clsA c)) cv = some b ∧ Q (.bl b) H) := by
  intro pins s σ H xs us Q I r h
  obtain ⟨φ, W, p, c, v, V, U, b, rfl, hU, vr, e, q⟩ := h
  obtain ⟨u1, u2, rfl, r1, r2⟩ := vals2 r
  have e2 := hU.eq r2
  subst e2
  obtain ⟨P, Z, hp, hx⟩ := kit_exc I vr r1 (ics c)
  exact PySem.W.kia_one Z I.kIn hp e hx fun tk => ⟨.bl b, H, I.tok tk, rfl, q⟩
end
end EV
set_option linter.all false
set_option maxRecDepth 100000
set_option maxHeartbeats 1000000
/-! EvH: raise C(e); try: x = a() / except C as n: y = n. -/
namespace EV
open PySem PySem.Spec PySem.Calls PyProof.Rows L2

section
variable {C : Ct}
/-- an error made, to be raised -/
theorem pmk_exn {c : Nat} {D fI cc : Addr} {k : Nat} {x : Str} {e : Expr} {p pos : Pos} {f} (F : InitF C.X.prog C.X.K C.X.mg D fI cc) (T : ClsF C.X.K D (C.Γ.clsA c)) (iC : PySem.W.findIn C.X.K (.ref (C.Γ.clsA c)) "__init__" = some (some (.ref fI))) (tI : PySem.W.typeIn C.X.K (.ref fI) = some (.type "function")) (hr : Room (k + 1) C.X.A)
    (hg : Gl C.X x) (hm : C.X.mg x = some (.ref (C.Γ.clsA c))) (hdb : (x == ("__debug__" : Str)) = false) (hs : isStar e = false) (he : PE C.X e (tE C f)) :
    PMk C.X (.Call (.Name x p) [e] [] pos) (fun σ H Q => tE C f σ H fun V H1 => ∀ dx, H1 dx = none → Q (.ref (C.Γ.clsA c)) (some dx) (upd H1 dx (.xd [("value", V)]))) := by
  intro pins s σ H Q I ⟨φ, ρ, h, rl, po⟩
  refine wpAny_Call_Name_kw (ld_glob I hg hm ?_ hdb)
  have hA := (pa_one hs he).run pos pins s σ H (fun vs H1 => ∃ V, vs = [V] ∧ ∀ dx, H1 dx = none → Q (.ref (C.Γ.clsA c)) (some dx) (upd H1 dx (.xd [("value", V)]))) I
    ⟨φ, ρ, h, rl, po.imp fun v φ1 h1 H1 s1 hr1 q V vr => ⟨V, rfl, q V vr⟩⟩
  refine PySem.W.callWith_K (h₀ := C.X.base) I.ok.mod.kin T.ox.kC (thn hA fun us s1 ⟨vs, H1, I1, r1, V, ev, q⟩ => ⟨I1.kIn, ?_⟩) (starEach_cons hs) rfl
  subst ev
  obtain ⟨u, rfl, ru⟩ := Vals.one r1
  refine make_run F T iC tI hr I1 fun h' t' a dx t1 k' na n1 n2 d1 d2 d3 e1 e2 e3 => ?_
  have Ha := I1.hok.gone na
  have Hd := I1.hok.gone n2
  obtain ⟨G, g1, g2⟩ := restrict h' fun b => decide (b ≠ a)
  have gk : ∀ b, b ≠ a → G.get? b = h'.get? b := fun b hb => g1 b (decide_eq_true hb)
  have ge : G.get? a = none := g2 a (by simp)
  have up : ∀ b o, G.get? b = some o → h'.get? b = some o := fun b o z => by
    have : b ≠ a := fun y => by rw [y, ge] at z; cases z
    rw [← gk b this]; exact z
  have I2 : Inv C.X pins σ (upd H1 dx (.xd [("value", V)])) { s1 with heap := G, toks := t' } := inv_new I1
    (fun b o z => by
      have : b ≠ a := fun y => by rw [y, na] at z; cases z
      rw [gk b this]; exact k' b o z)
    (fun b o z => by rw [upd_ne (ne_of_none z Hd)]; exact z)
    (fun b o z n => by
      have : b ≠ dx := fun y => by rw [y, n2] at z; cases z
      rw [upd_ne this]; exact n)
    (fun b o z => by
      by_cases q2 : b = dx
      · subst q2
        rw [upd_same] at z; cases z
        exact .inr ⟨_, e3.at fun o y => by rw [gk b d3]; exact y, fun g => relO_put (fs := []) ru (mA := fun _ => none) (fun g => True.intro) g⟩
      · rw [upd_ne q2] at z
        exact .inl z)
  exact ⟨a, _, _, _, upd H1 dx (.xd [("value", V)]), .ref (C.Γ.clsA c), some dx, rfl, I2, up, ge, e1, ⟨rfl, rfl⟩, rfl, rfl, by rw [upd_ne (Ne.symm d3)]; exact Ha, rfl, I1.bare, raises_own T.ox.exC T.ox.tyC, q dx Hd⟩
/-- raise C(e) -/
theorem ss_rse {c : Nat} {D fI cc : Addr} {k : Nat} {x : Str} {e : Expr} {p pos pos' : Pos} {f} (hf : C.flag = false) (hc : C.X.calm = true) (tk : Takes C.X fun cls d _ H => C.Ex cls d H) (F : InitF C.X.prog C.X.K C.X.mg D fI cc) (T : ClsF C.X.K D (C.Γ.clsA c)) (iC : PySem.W.findIn C.X.K (.ref (C.Γ.clsA c)) "__init__" = some (some (.ref fI))) (tI : PySem.W.typeIn C.X.K (.ref fI) = some (.type "function")) (hr : Room (k + 1) C.X.A)
    (hg : Gl C.X x) (hm : C.X.mg x = some (.ref (C.Γ.clsA c))) (hdb : (x == ("__debug__" : Str)) = false) (hs : isStar e = false) (he : PE C.X e (tE C f)) :
    PS C.X (.Raise (some (.Call (.Name x p) [e] [] pos)) none pos') (tS C fun ρ h => (f ρ h).bnd fun v h => .ex c v h) := by
  refine (ps_raise hc tk (pmk_exn F T iC tI hr hg hm hdb hs he)).imp fun Dn σ H ⟨φ, ρ, h, rl, p⟩ => ?_
  refine tE.mk rl (p.bnd.po.imp fun x φ1 h1 H1 s1 hr1 p1 V v rl1 dx hn => ?_)
  have st : Stp φ1 φ1 H1 (upd H1 dx (.xd [("value", V)])) := stp_new hn
  exact (show PoX C.Γ φ1 H1 c x h1 C.Ex from p1) φ1 _ dx V st ((hr1.w (Ct.w_off hf)).new hn fun c v z => z.mono st) upd_same (VR.mono st (fun c v z => (Ct.w_off hf c v z).mono st) _ _ v)
end

/-! ### try -/
section
variable {X : Cx} {pins : List (Addr × Obj)} {σ : L2.St} {H : Hp} {s : Shared}
/-- what stands in the heap, and is new since the entry, is tracked -/
theorem inv_track {a : Addr} {oe : Obj} {vs : Array Value} {f : Heap → Prop} (I : Inv X pins σ H s) (h0 : X.s_0.heap.get? a = none) (e : s.heap.get? a = some oe) (hd : oe.data = .fields vs) (n : H a = none) (nL : a ≠ X.env.locals) (np : ∀ p ∈ X.pn ++ pins, p.1 ≠ a) (k : f s.heap) (st : ∀ h1 h2 : Heap, f h1 → (∀ o, h1.get? a = some o → h2.get? a = some o) → f h2) :
    Inv X pins σ (upd H a (.ext f)) s := by
  have ne : ∀ {b : Addr} {o : HO}, H b = some o → b ≠ a := fun z => ne_of_none z n
  refine ⟨I.ok, I.os, I.bare, ⟨I.base.keep, I.base.slot, fun b o z m hx => ?_, I.base.there, fun b xs z => ?_, fun b o u z => ?_, fun b ps z => ?_⟩, I.loc, I.cell, ?_, fun y c z => ?_, fun p hp => ?_, fun b u z => ?_, I.len⟩
  · have : b ≠ a := fun y => by rw [y, h0] at z; cases z
    rw [upd_ne this]
    exact I.base.free b o z m hx
  · have q := I.base.tups b xs z
    rw [upd_ne (ne q)]; exact q
  · have q := I.base.frzs b o u z
    rw [upd_ne (ne q)]; exact q
  · obtain ⟨m, q⟩ := I.base.tbls b ps z
    exact ⟨m, by rw [upd_ne (ne q)]; exact q⟩
  · rw [upd_ne (Ne.symm nL)]; exact I.free
  · have : c ≠ a := fun q => by
      obtain ⟨v, o, z1, z2⟩ := I.cell y c z
      rw [q, e] at z1
      cases z1
      rw [hd] at z2
      cases z2
    rw [upd_ne this]
    exact I.freeC y c z
  · obtain ⟨q1, q2, q3⟩ := I.pin p hp
    exact ⟨q1, by rw [upd_ne (np p hp)]; exact q2, q3⟩
  · by_cases hb : b = a
    · subst hb
      rw [upd_same] at z
      cases z
      exact ⟨k, ⟨oe, e⟩, st⟩
    · rw [upd_ne hb] at z
      exact (I.hok b u z).stay (fun _ _ _ q => q) (fun c q => by rw [upd_ne (ne q)]; exact q) fun c xs q => by rw [upd_ne (ne q)]; exact q
end
/-- an exception's object, where its class and its own dict are known -/
def ExK (cls : Value) (d : Option Addr) (a : Addr) : HO := .ext fun h => ∃ (oe : Obj) (vs : Array Value), h.get? a = some oe ∧ Zc cls d oe ∧ oe.data = .fields vs
/-- what the clause wishes of an exception of the body: behind the suite its object is tracked -/
def wKp (K : PySem.W.Frag) (c : Value) (i : Nat) (ts : Addr → Value → Option Addr → TS) (D : Ends) : WX := fun cls d σ H =>
  PySem.W.exmOne K cls c = some true ∧ ∀ a, H a = none → ts a cls d { nx := fun σ' H' => H' a = none → D.nx (σ'.set i none) (upd H' a (ExK cls d a)), rt := fun _ _ => False } (σ.set i (some (.ref a))) H
section
variable {X : Cx} {x n : Str} {c : Value} {i : Nat} {body : List Stmt} {st : Stmt} {np pos pos' : Pos} {tb : WX → TS} {ts : Addr → Value → Option Addr → TS}
theorem ps_try_kp (hx0 : X.ex = []) (hs : X.stack = X.env :: X.outer) (hf : X.env.frame = some X.env.locals) (hN : X.N.Nodup) (hi : X.N[i]? = some n) (hln : X.env.kindOf n = some .local) (hc : Names X x c)
    (hb : ∀ (W : WX) (pn : List (Addr × Obj)) (xe : Value → Shared → Prop), Takes (X.tr pn xe) W → PassesOwn (model X.prog X.w) X.A X.env xe → PSs (X.tr pn xe) body (tb W))
    (hsu : ∀ (a : Addr) (oe : Obj) (cls : Value) (d : Option Addr) (pn : List (Addr × Obj)), Zc cls d oe → (∃ vs, oe.data = .fields vs) → PSs (X.suite a ((a, oe) :: pn)) [st] (ts a cls d)) :
    PS X (.Try body [.ExceptHandler (some (.Name x np)) (some n) [st] pos'] [] [] pos) (fun D σ H => tb (wKp X.K c i ts D) D σ H) := by
  constructor
  intro pins s σ H D I h
  have xok := I.ok
  have frms : X.A.frames = some (X.env :: X.outer) := by rw [xok.frames, hs]
  have own : Loc X.env.scope n := .inl hln
  apply wpAny_Try_except
  have run := (hb (wKp X.K c i ts D) (X.pn ++ pins) (fun e s₁ => wpAny (model X.prog X.w) X.A (noteFrame e X.env) (fun _ s₂ => wpAny (model X.prog X.w) X.A (setFlight e none)
    (fun _ s₃ => wpAny (model X.prog X.w) X.A (handleBy e X.env [.ExceptHandler (some (.Name x np)) (some n) [st] pos']) (SP X pins D) X.xe s₃) X.xe s₂) X.xe s₁) ?tk PassesOwn.looking).run [] s σ H D (I.toTry _) h
  case tk =>
    intro u s' ⟨a, B, sI, pins', σ', H', cls, d, eu, J', nb, up, sky, na, os, ag, hex, hyes⟩
    subst eu
    have J : Inv X pins σ' H' sI := J'.ofTry xok
    rw [show (X.tr (X.pn ++ pins) _).stack = X.env :: X.outer from hs] at sky
    show wpAny (model X.prog X.w) X.A (noteFrame (.ref a) X.env) _ _ _
    refine Sky.land Zc.steady frms hf sky fun hA flA upA => ?_
    obtain ⟨oA, vA, gA, zA, dA⟩ := flA.there
    have JA : Inv X pins σ' H' { s' with heap := hA } := J.landed nb flA.1 (up.trans upA) os ag
    have away : a ∉ frs (X.env :: X.outer) := fun hm => by
      obtain ⟨_, o1, g1, hnf⟩ := flA.2.2.1.mem hm
      rw [gA] at g1
      cases g1
      exact hnf _ dA
    have nL : a ≠ X.env.locals := fun z => away (List.mem_filterMap.mpr ⟨X.env, List.mem_cons_self, by rw [hf, z]⟩)
    have nF : a ∉ X.fs := fun hm => by
      obtain ⟨e, he, q⟩ := List.mem_filterMap.mp hm
      exact away (List.mem_filterMap.mpr ⟨e, List.mem_cons_of_mem _ he, q⟩)
    have nI : sI.heap.get? a = none := by
      cases z : sI.heap.get? a with
      | none => rfl
      | some o =>
        have := nb a o z (by rw [show (X.tr (X.pn ++ pins) _).stack = X.env :: X.outer from hs]; exact away)
        rw [flA.2.1] at this
        cases this
    have n0 : X.s_0.heap.get? a = none := by
      cases z : X.s_0.heap.get? a with
      | none => rfl
      | some o =>
        obtain ⟨o', z2⟩ := J.base.there a o z (by rw [hx0]; simp)
        rw [nI] at z2
        cases z2
    have nP : ∀ p ∈ X.pn ++ pins, p.1 ≠ a := fun p hp z => by
      have := (J.pin p hp).1
      rw [z, nI] at this
      cases this
    have SA := JA.suite gA dA na nL nF
    refine wpAny_handleBy_cons (codeAny_handlers_test ?_) (by intro q; cases q)
    have LT : PySem.W.Looks (model X.prog X.w) hA (typeOf (.ref a)) cls := fun A Q E s k q => wpAny_typeOf_ref (k _ _ gA) (by rw [zA.1]; exact q)
    have LM := PySem.W.exm_one (M := model X.prog X.w) JA.kIn LT hex
    have name : ∀ {Q : Value → Shared → Prop} {E : Value → Shared → Prop}, Q c { s' with heap := hA } → wpAny (model X.prog X.w) (X.A.mark (some (.ref a))) (eval (.Name x np) X.env) Q E { s' with heap := hA } := fun {Q E} q => by
      obtain ⟨hg, hdbg, hm | ⟨hm, hv, hnn⟩⟩ := hc
      · exact ld_glob (X := X.suite a ((a, oA) :: (X.pn ++ pins))) SA hg hm q hdbg
      · exact ld_blt (X := X.suite a ((a, oA) :: (X.pn ++ pins))) SA hg hm hv q hnn hdbg
    refine name (LM.here (codeAny_handlers_suite_as (HandSPX.lands_againZ flA fun hB flB upB => ?_)))
    obtain ⟨oB, vB, gB, zB, dB⟩ := flB.there
    have JB : Inv X pins σ' H' { s' with heap := hB } := J.landed nb flB.1 ((up.trans upA).trans upB) os ag
    refine store_ok (X := X.suite a ((a, oB) :: (X.pn ++ pins))) (v := .ref a) (JB.suite gB dB na nL nF) hN hi own rfl (fun sC SC => ?_) (.inr hln)
    refine wpAny_mono ((hsu a oB cls d (X.pn ++ pins) zB ⟨_, dB⟩).run [] sC _ H' _ SC (hyes a na)) (fun fl sD hsp => ?_) (fun _ _ z => z.elim)
    cases fl with
    | next =>
      obtain ⟨σ6, H6, S6, q6⟩ := hsp
      have J6 : Inv X ((a, oB) :: pins) σ6 H6 sD := ⟨xok, S6.os, S6.bare, S6.base, S6.loc, S6.cell, S6.free, S6.freeC, fun p hp => S6.pin p (by
        rw [List.append_nil]
        rcases List.mem_append.mp hp with z | z
        · exact List.mem_cons_of_mem _ (List.mem_append_left _ z)
        · rcases List.mem_cons.mp z with z | z
          · rw [z]; exact List.mem_cons_self
          · exact List.mem_cons_of_mem _ (List.mem_append_right _ z)), S6.hok, S6.len⟩
      refine gone_ok J6 hN hi hln fun s7 J7 => ?_
      obtain ⟨g7, n7, _⟩ := J7.pin (a, oB) (List.mem_append_right _ List.mem_cons_self)
      have J8 : Inv X pins (σ6.set i none) H6 s7 := ⟨xok, J7.os, J7.bare, J7.base, J7.loc, J7.cell, J7.free, J7.freeC, fun p hp => J7.pin p (by
        rcases List.mem_append.mp hp with z | z
        · exact List.mem_append_left _ z
        · exact List.mem_append_right _ (List.mem_cons_of_mem _ z)), J7.hok, J7.len⟩
      exact ⟨_, _, inv_track J8 n0 g7 dB n7 nL nP ⟨oB, _, g7, zB, dB⟩ fun h1 h2 ⟨o, vs, y1, y2, y3⟩ sy => ⟨o, vs, sy _ y1, y2, y3⟩, q6 n7⟩
    | brk =>
      obtain ⟨_, _, _, q6⟩ := hsp
      exact q6.elim
    | cont =>
      obtain ⟨_, _, _, q6⟩ := hsp
      exact q6.elim
    | ret u =>
      obtain ⟨_, _, _, _, _, q6⟩ := hsp
      exact q6.elim
  refine wpAny_mono run (fun fl s1 hsp => ?_) fun e s1 he => he
  cases fl with
  | next =>
    obtain ⟨σ', H', J', q⟩ := hsp
    exact wpAny_execs_nil ⟨σ', H', J'.ofTry xok, q⟩
  | brk =>
    obtain ⟨σ', H', J', q⟩ := hsp
    exact ⟨σ', H', J'.ofTry xok, q⟩
  | cont =>
    obtain ⟨σ', H', J', q⟩ := hsp
    exact ⟨σ', H', J'.ofTry xok, q⟩
  | ret u =>
    obtain ⟨v, σ', H', J', r, q⟩ := hsp
    exact ⟨v, σ', H', J'.ofTry xok, r, q⟩
end
end EV
set_option linter.all false
set_option maxRecDepth 100000
set_option maxHeartbeats 1000000
/-! EvI: try: x = a() / except C as n: y = n, by the evaluator. -/
namespace EV
open PySem PySem.Spec PySem.Calls PyProof.Rows L2

section
variable {X : Cx} {Γ : Gm}
/-- a() of a closure that lies in a slot, by what is promised of its run -/
theorem run_clo0 {k kk np : Nat} {run : List PV → Hh → Rz PV} {pins : List (Addr × Obj)} {σ : L2.St} {H : Hp} {s : Shared} {φ : List Addr} {h : Hh} {caps : List PV} {f : Addr} {Q : VK} {E : XK} (F : ∀ L, Γ.lam k L → LmE X.prog X.w X.K X.mg X.base Γ kk L np run) (hr : Room kk X.A) (l0 : np = 0) (gd : X.A.guards = some [])
    (hx : ∀ e s', L2.CX X.prog X.w X.stack H s E e s' → X.xe e s') (I : Inv X pins σ H s) (hrr : HR Γ φ H (Trk H) h) (v : VR Γ φ H (Trk H) (.clo k caps) (.ref f)) (p : PoR Γ φ H (run caps h) Q E) :
    wpAny (model X.prog X.w) X.A (call (.ref f) []) (EP X pins σ Q) X.xe s := by
  simp only [VR] at v
  obtain ⟨L, f', c', cl, Cv, eL, ef, h1, h2, ⟨h3, h3'⟩, r1, l, q⟩ := v
  cases ef
  refine wp_code (codeAny_mono ((F L eL).run X.A X.stack s H f c' cl Cv φ h caps [] [] [] Q E gd hr I.env0 h1 h2 ⟨h3, h3', l, q⟩ r1 hrr rfl .nil l0.symm (by rw [List.append_nil]; exact p)) fun r s' hq => ?_)
  cases r with
  | error e => exact hx e s' hq
  | ok fl =>
    cases fl with
    | ret u => exact I.after hq
    | next => exact False.elim hq
    | brk => exact False.elim hq
    | cont => exact False.elim hq
end
section
variable {C : Ct}
/-- the reading of a(), for the try -/
def tC0 (Γ : Gm) (q : Nat) (clo : Nat → List PV → List PV → Hh → Rz PV) (W : WX) : TE := fun σ H Q => ∃ φ h kq caps f, HR Γ φ H (Trk H) h ∧ σ[q]? = some (some (V.ref f)) ∧ VR Γ φ H (Trk H) (.clo kq caps) (.ref f) ∧ PoR Γ φ H (clo kq caps [] h) Q (fun cls d H' => W cls d σ H')
theorem pe_clo0 {q : Nat} {a : Str} {clo : Nat → List PV → List PV → Hh → Rz PV} {p1 p2 : Pos} {W : WX} {pn : List (Addr × Obj)} {xe : Value → Shared → Prop} (K : ∀ k, LmK C k (clo k)) (gd : C.X.A.guards = some []) (tk : Takes (C.X.tr pn xe) W)
    (hN : C.X.N[q]? = some a) (hv : Vis C.X.env.scope a) (hd : (a == ("__debug__" : Str)) = false) (hcd : (a == ("__classdict__" : Str)) = false) : PE (C.X.tr pn xe) (.Call (.Name a p1) [] [] p2) (tC0 C.Γ q clo W) := by
  refine ⟨fun pins s σ H Q I ⟨φ, h, kq, caps, f, hr, e1, v, p⟩ => ?_⟩
  refine wpAny_Call_Name_kw (thn ((pe_var (X := C.X.tr pn xe) (pos := p1) (i := q) hN hv hd hcd).run pins s σ H (fun v H1 => v = .ref f ∧ H1 = H) I ⟨.ref f, e1, rfl, rfl⟩) fun u s1 ⟨v', H1, I1, r1, q1⟩ => ?_)
  obtain ⟨ev, eH⟩ := q1
  subst ev eH
  obtain rfl : u = Value.ref f := r1
  obtain ⟨kk, np, run, F, hrm, k1, k2⟩ := (K kq).ex
  obtain ⟨L, eL, lc⟩ : ∃ L, C.Γ.lam kq L ∧ caps.length = L.names.length := by
    have v2 := v
    simp only [VR] at v2
    obtain ⟨L, _, _, _, Cv, eL, _, _, _, _, r1, l, _⟩ := v2
    exact ⟨L, eL, by rw [← r1.len, l]⟩
  have l0 : np = 0 := by
    refine Decidable.byContradiction fun hn => ?_
    rw [k2 L caps [] h eL lc (fun z => hn z.symm)] at p
    exact p
  rw [k1, List.append_nil] at p
  refine PySem.W.callWith_F0 (clo_at I1.hok v) ?_
  refine run_clo0 (X := C.X.tr pn xe) (Γ := C.Γ) (E := fun cls d H' => W cls d σ H') F hrm l0 gd (fun e s' c => passAt tk σ [] H1 s1 e s' ?_ c) I1 hr v p
  exact ⟨I1.ok, I1.os, I1.bare, I1.base, I1.loc, I1.cell, I1.free, I1.freeC, fun p hp => I1.pin p (by rw [List.append_nil] at hp; exact List.mem_append_left _ hp), I1.hok, I1.len⟩
theorem ss_try1 {i j k q c : Nat} {xn yn en an cn : Str} {F : Cfg} {px p1 p2 pA np py pe pB pos pos' : Pos} (hf : C.flag = false) (K : ∀ k, LmK C k (F.clo k)) (gd : C.X.A.guards = some []) (hx0 : C.X.ex = []) (hs : C.X.stack = C.X.env :: C.X.outer) (hfr : C.X.env.frame = some C.X.env.locals) (hN : C.X.N.Nodup)
    (hi : C.X.N[i]? = some xn) (hj : C.X.N[j]? = some yn) (hk : C.X.N[k]? = some en) (hq : C.X.N[q]? = some an) (hjk : j ≠ k) (li : C.X.env.scope.names.lookup xn = some .local) (lj : C.X.env.scope.names.lookup yn = some .local) (lk : C.X.env.scope.names.lookup en = some .local)
    (va : Vis C.X.env.scope an) (oa : okName an = true) (oe : okName en = true) (nm : Names C.X cn (.ref (C.Γ.clsA c))) (exm : ∀ d, PySem.W.exmOne C.X.K (.ref (C.Γ.clsA d)) (.ref (C.Γ.clsA c)) = some (F.sub d c)) :
    PS C.X (.Try [.Assign [.Name xn px] (.Call (.Name an p1) [] [] p2) pA] [.ExceptHandler (some (.Name cn np)) (some en) [.Assign [.Name yn py] (.Name en pe) pB] pos'] [] [] pos)
      (tS C fun ρ h => match (match slot ρ q with
        | some (.clo k caps) => (Rz.ok [] h).bnd fun vs h => F.clo k caps vs h
        | _ => .err) with
      | .ok v h => .ok (.nx (ρ.set i (some v))) h
      | .ex d v h => if F.sub d c then .ok (.nx ((ρ.set j (some (.exc false d v))).set k none)) h else .err
      | .err => .err) := by
  have oa' : (an == ("__debug__" : Str)) = false ∧ (an == ("__classdict__" : Str)) = false := by unfold okName at oa; simpa using oa
  have oe' : (en == ("__debug__" : Str)) = false ∧ (en == ("__classdict__" : Str)) = false := by unfold okName at oe; simpa using oe
  have P := ps_try_kp (body := [.Assign [.Name xn px] (.Call (.Name an p1) [] [] p2) pA]) (st := .Assign [.Name yn py] (.Name en pe) pB) (np := np) (pos := pos) (pos' := pos') (tb := fun W => tAsg (tC0 C.Γ q F.clo W) (gName i)) (ts := fun a cls d D σ H => ∃ V, σ[k]? = some (some V) ∧ D.nx (σ.set j (some V)) H) hx0 hs hfr hN hk lk nm
    (fun W pn xe tk po => pss_one (ps_asg (pe_clo0 K gd tk hq va oa'.1 oa'.2) (pg_name hN hi (.inl li) (.inr li)) (pos := pA)))
    (fun a oe cls d pn hz hv => (pss_one (ps_asg (X := C.X.suite a ((a, oe) :: pn)) (pe_var (X := C.X.suite a ((a, oe) :: pn)) hk (.inl lk) oe'.1 oe'.2) (pg_name (X := C.X.suite a ((a, oe) :: pn)) hN hj (.inl lj) (.inr lj)) (pos := pB))).imp fun D σ H ⟨V, h1, h2⟩ => ⟨V, h1, h2⟩)
  refine ⟨fun pins s σ H D I ⟨φ, ρ, h, rl, p⟩ => P.run pins s σ H D I ?_⟩
  have len : ∀ {m : Nat} {x : Str}, C.X.N[m]? = some x → m < σ.length := fun e => by rw [I.len]; exact (List.getElem?_eq_some_iff.mp e).1
  · dsimp only at p
    cases es : slot ρ q with
    | none => rw [es] at p; exact p.elim
    | some v =>
      rw [es] at p
      cases v with
      | clo kq caps =>
        dsimp only at p
        obtain ⟨V, e1, v1⟩ := rl.re.get q _ (slot_some es)
        obtain ⟨f, rfl⟩ := clo_ref v1
        refine ⟨φ, h, kq, caps, f, rl.hr.w (Ct.w_off hf), e1, v1.w (Ct.w_off hf), ?_⟩
        have p : PoG C φ H (match F.clo kq caps [] h with
          | .ok v h => .ok (.nx (ρ.set i (some v))) h
          | .ex d v h => if F.sub d c then .ok (.nx ((ρ.set j (some (.exc false d v))).set k none)) h else .err
          | .err => .err) (PoF C D) := p
        cases er : F.clo kq caps [] h with
        | err => rw [er] at p; exact p.elim
        | ok v h1 =>
          rw [er] at p
          intro φ' H' st hr' V vr
          have re : RE C.Γ φ' H' (C.W σ H') ρ σ := rl.re.mono st (Ct.wm st)
          refine p φ' H' st (σ.set i (some V)) ⟨hr'.w Ct.w_on, ?_⟩
          exact (RE.put re (vr.w Ct.w_on) (len hi)).mono Stp.refl fun c v z => Ct.w_on c v (Ct.w_off hf c v z)
        | ex d v h1 =>
          rw [er] at p
          obtain ⟨sb, p⟩ := (show PoG C φ H (if F.sub d c = true then _ else .err) (PoF C D) from p).if_
          intro φ' H' dd y st hr' ed vr
          refine ⟨by rw [exm d, sb], fun a hn => ?_⟩
          refine ⟨.ref a, List.getElem?_set_self (len hk), fun hn2 => ?_⟩
          have s2 : Stp φ' φ' H' (upd H' a (ExK (.ref (C.Γ.clsA d)) (some dd) a)) := stp_new hn2
          have hne : dd ≠ a := fun z => by rw [z, hn2] at ed; cases ed
          have vx : VR C.Γ φ' (upd H' a (ExK (.ref (C.Γ.clsA d)) (some dd) a)) (Trk (upd H' a (ExK (.ref (C.Γ.clsA d)) (some dd) a))) (.exc false d v) (.ref a) := by
            simp only [VR]
            exact ⟨a, dd, y, rfl, upd_same, by rw [upd_ne hne]; exact ed, VR.mono s2 (fun c v z => z.mono s2) _ _ vr⟩
          have re : RE C.Γ φ' (upd H' a (ExK (.ref (C.Γ.clsA d)) (some dd) a)) (Trk (upd H' a (ExK (.ref (C.Γ.clsA d)) (some dd) a))) ρ σ := rl.re.mono (st.trans s2) fun c v z => (Ct.w_off hf c v z).mono (st.trans s2)
          refine p φ' _ (st.trans s2) _ ⟨(hr'.new hn2 fun c v z => z.mono s2).w Ct.w_on, ⟨fun m y em => ?_⟩⟩
          by_cases hmk : m = k
          · subst hmk
            have hl := (List.getElem?_eq_some_iff.mp em).1
            rw [List.length_set] at hl
            rw [List.getElem?_set_self hl] at em
            cases em
          · rw [List.getElem?_set_ne (Ne.symm hmk)] at em
            have e2 : ((((σ.set k (some (V.ref a))).set j (some (V.ref a))).set k none) : L2.St)[m]? = (σ.set j (some (V.ref a)))[m]? := by
              rw [List.getElem?_set_ne (Ne.symm hmk)]
              by_cases hmj : m = j
              · subst hmj
                rw [List.getElem?_set_self (by rw [List.length_set]; exact len hj), List.getElem?_set_self (len hj)]
              · rw [List.getElem?_set_ne (Ne.symm hmj), List.getElem?_set_ne (Ne.symm hmk), List.getElem?_set_ne (Ne.symm hmj)]
            obtain ⟨U, e3, z⟩ := (RE.put re vx (len hj)).get m y em
            exact ⟨U, by rw [e2]; exact e3, z.w Ct.w_on⟩
      | _ => exact p.elim
end
end EV
set_option linter.all false
set_option maxRecDepth 100000
set_option maxHeartbeats 1000000
/-! EvJ: a def called by places and by names. -/
namespace EV
open PySem PySem.Spec PyProof.Rows L2

/-- in the order of the parameters -/
def perV {α : Type} (xs : List α) (perm : List Nat) : List α := perm.filterMap fun i => xs[i]?
theorem getAll_per {xs : List PV} : ∀ {perm : List Nat} {ys : List PV}, getAll xs perm = some ys → ys = perV xs perm
  | [], ys, e => by cases e; rfl
  | i :: r, ys, e => by
    unfold getAll at e
    split at e
    · rename_i v l e1 e2
      cases e
      unfold perV
      rw [List.filterMap_cons, e1, getAll_per e2]
      rfl
    · cases e
theorem per_vals {vs : List V} {us : List Value} (r : Vals vs us) : ∀ perm : List Nat, Vals (perV vs perm) (perV us perm)
  | [] => .nil
  | i :: p => by
    unfold perV
    rw [List.filterMap_cons, List.filterMap_cons]
    cases e : vs[i]? with
    | none =>
      have : us[i]? = none := by
        rw [List.getElem?_eq_none_iff] at e ⊢
        rw [← r.length]; exact e
      rw [this]
      exact per_vals r p
    | some v =>
      obtain ⟨u, e2, rv⟩ := r.get e
      rw [e2]
      exact .cons rv (per_vals r p)
theorem per_vrs {Γ φ H W} {xs : List PV} {Vs : List V} (r : VRs Γ φ H W xs Vs) : ∀ perm : List Nat, VRs Γ φ H W (perV xs perm) (perV Vs perm)
  | [] => rfl
  | i :: p => by
    unfold perV
    rw [List.filterMap_cons, List.filterMap_cons]
    cases e : xs[i]? with
    | none =>
      have : Vs[i]? = none := by
        rw [List.getElem?_eq_none_iff] at e ⊢
        rw [r.len]; exact e
      rw [this]
      exact per_vrs r p
    | some v =>
      obtain ⟨u, e2, rv⟩ := r.get e
      rw [e2]
      exact VRs.cons' rv (per_vrs r p)
section
variable {C : Ct}
theorem sk_nil : PK C.X [] (tA C fun _ h => .ok [] h) := ⟨fun pos pins s σ H Q I ⟨φ, ρ, h, rl, po⟩ => pk_nil.run pos pins s σ H Q I (po.ok' rl.hr [] rfl)⟩
theorem sk_cons {e : Expr} {nm : Option Str} {kpos : Pos} {kws : List Keyword} {f g} (ha : PE C.X e (tE C f)) (hr : PK C.X kws (tA C g)) :
    PK C.X (⟨nm, e, kpos⟩ :: kws) (tA C fun ρ h => (f ρ h).bnd fun x h => (g ρ h).bnd fun xs h => .ok (x :: xs) h) := by
  refine ⟨fun pos pins s σ H Q I ⟨φ, ρ, h, rl, po⟩ => (pk_cons ha hr).run pos pins s σ H Q I ?_⟩
  refine tE.mk rl (po.bnd.imp fun x φ1 h1 H1 s1 hr1 p1 V v rl1 => ?_)
  refine tA.mk rl1 (p1.bnd.imp fun xs φ2 h2 H2 s2 hr2 p2 Vs vs rl2 => ?_)
  exact p2.ok' hr2 _ ⟨V, Vs, rfl, VR.mono s2 (Ct.wm s2) _ _ v, vs⟩
/-- what is known of a def that is called by names, too -/
structure FnK (C : Ct) (f : Addr) (call : List PV → Hh → Rz PV) (x : Str) (n : Nat) (ks : List Str) (perm : List Nat) : Prop where
  fn : ∃ k fd ps, FnE C.X.prog C.X.w C.X.K C.X.mg C.X.base k f fd ps (spF C.Γ ps.length call) ∧ (∀ vs h, vs.length ≠ ps.length → call vs h = .err) ∧ Room k C.X.A ∧
    ∀ (s : Shared) (us ws : List Value), C.X.K.In s.heap → us.length = n → ws.length = ks.length → BindsTo s fd ⟨us, ks.zip ws⟩ (ps.zip (perV (us ++ ws) perm))
  mg : C.X.mg x = some (.ref f)
  kp : PySem.W.keepIn C.X.K (.ref f) = true
/-- the keywords' names, all there -/
def kwNames : List Keyword → Option (List Str)
  | [] => some []
  | ⟨some x, _, _⟩ :: r => match kwNames r with
    | some l => some (x :: l)
    | none => none
  | _ => none
theorem kw_names {pos : Pos} {env : Env} : ∀ {kws : List Keyword} {ks : List Str}, kwNames kws = some ks → (backToKw pos (keywordEach kws env)).all (·.1.isSome) = true ∧ (backToKw pos (keywordEach kws env)).filterMap (·.1) = ks ∧ (backToKw pos (keywordEach kws env)).any (·.1.isNone) = false ∧ ks.length = kws.length
  | [], ks, e => by cases e; exact ⟨rfl, rfl, rfl, rfl⟩
  | ⟨some x, v, p⟩ :: r, ks, e => by
    unfold kwNames at e
    split at e
    · rename_i l e1
      cases e
      obtain ⟨h1, h2, h3, h4⟩ := kw_names (pos := pos) (env := env) e1
      refine ⟨?_, ?_, ?_, by rw [List.length_cons, List.length_cons, h4]⟩
      · show (true && (backToKw pos (keywordEach r env)).all (·.1.isSome)) = true
        rw [h1]; rfl
      · show x :: (backToKw pos (keywordEach r env)).filterMap (·.1) = _
        rw [h2]
      · show (false || (backToKw pos (keywordEach r env)).any (·.1.isNone)) = false
        rw [h3]; rfl
    · cases e
  | ⟨none, v, p⟩ :: r, ks, e => by cases e
theorem se_callk {F : Cfg} {f : Addr} {cal : List PV → Hh → Rz PV} {x : Str} {p pos : Pos} {es : List Expr} {kws : List Keyword} {ks : List Str} {perm : List Nat} {g gk} {na nk : Nat} (fl : C.flag = true → F.flag = true ∧ F.capd = C.capd) (K : FnK C f cal x es.length ks perm) (gd : C.X.A.guards = some []) (hg : Gl C.X x) (hx : Passes (CX C.X.prog C.X.w) C.X C.Ex) (hfl : C.flag = true → FlX C.X)
    (hs : es.all (fun e => !isStar e) = true) (hks : kwNames kws = some ks) (hna : es.length = na) (hnk : kws.length = nk) (ha : PA C.X es (tA C g)) (h0 : es = [] → ∀ ρ h, g ρ h = .ok [] h) (hk : PK C.X kws (tA C gk)) (hdb : (x == ("__debug__" : Str)) = false) :
    PE C.X (.Call (.Name x p) es kws pos) (tE C fun ρ h => (g ρ h).bnd fun vs h => (gk ρ h).bnd fun ws h => if vs.length = na ∧ ws.length = nk then (match getAll (vs ++ ws) perm with
      | some us => (cal us h).nxf F.flag
      | none => .err) else .err) := by
  obtain ⟨k, fd, ps, F1, hlen, hr, hb⟩ := K.fn
  obtain ⟨k1, k2, k3, k4⟩ := kw_names (pos := pos) (env := C.X.env) hks
  refine ⟨fun pins s σ H Q I ⟨φ, ρ, h, rl, po⟩ => ?_⟩
  refine wpAny_Call_Name_kw (ld_glob I hg K.mg ?_ hdb)
  have fin : ∀ {us : List Value} {Us : List V} {xs : List PV} {s1 : Shared} {H1 : Hp} {φ1 : List Addr} {h1 : Hh}, Inv C.X pins σ H1 s1 → Vals Us us → Rl C φ1 h1 ρ σ H1 → VRs C.Γ φ1 H1 (C.W σ H1) xs Us →
      Po C φ1 σ H1 ((gk ρ h1).bnd fun ws h => if xs.length = na ∧ ws.length = nk then (match getAll (xs ++ ws) perm with
        | some us => (cal us h).nxf F.flag
        | none => .err) else .err) (fun v φ' _ H' => ∀ V, VR C.Γ φ' H' (C.W σ H') v V → Q V H') →
      wpAny (model C.X.prog C.X.w) C.X.A (evalAll ((backToKw pos (keywordEach kws C.X.env)).map (·.2))) (fun ws s2 => C.X.K.In s2.heap ∧ wpAny (model C.X.prog C.X.w) C.X.A (PySem.call (.ref f) us (((backToKw pos (keywordEach kws C.X.env)).filterMap (·.1)).zip ws)) (EP C.X pins σ Q) C.X.xe s2) C.X.xe s1 := fun {us Us xs s1 H1 φ1 h1} I1 r rl1 vs q => by
    refine thn (hk.run pos pins s1 σ H1 (fun Ws H2 => Us.length = es.length ∧ Ws.length = kws.length ∧ ∃ φ2 h2 us', VRs C.Γ φ2 H2 (C.W σ H2) us' (perV (Us ++ Ws) perm) ∧ HR C.Γ φ2 H2 (C.W σ H2) h2 ∧ Po C φ2 σ H2 ((cal us' h2).nxf C.flag) fun v φ' _ H' => ∀ V, VR C.Γ φ' H' (C.W σ H') v V → Q V H') I1
      (tA.mk rl1 (q.bnd.imp fun ws φ2 h2 H2 s2 hr2 p2 Ws vw rl2 => ?_))) fun ws s2 ⟨Ws, H2, I2, rw', lu, lw, φ2, h2, us', vr, hr2, q2⟩ => ⟨I2.kIn, ?_⟩
    · obtain ⟨⟨l1, l2⟩, p2⟩ := p2.if_
      refine ⟨by rw [vs.len, l1, hna], by rw [vw.len, l2, hnk], ?_⟩
      cases eg : getAll (xs ++ ws) perm with
      | none => rw [eg] at p2; exact p2.elim
      | some us' =>
        rw [eg] at p2
        refine ⟨φ2, h2, us', ?_, hr2, ?_⟩
        · rw [getAll_per eg]
          exact per_vrs (VRs.app (VRs.mono s2 (Ct.wm s2) _ _ vs) vw) perm
        · cases hf : C.flag with
          | false => exact Po.nxf (show Po C φ2 σ H2 ((cal us' h2).nxf F.flag) _ from p2)
          | true =>
            have p2 : Po C φ2 σ H2 ((cal us' h2).nxf F.flag) _ := p2
            rw [(fl hf).1] at p2
            exact p2
    · rw [k2]
      have rr : Vals (Us ++ Ws) (us ++ ws) := r.append rw'
      refine wp_code (run_fnC F1 hlen gd hr hx hfl I2 (per_vals rr perm) hr2 vr q2 fun hl2 => ?_)
      exact hb s2 us ws I2.kIn (by rw [← r.length]; exact lu) (by rw [← rw'.length, lw, k4])
  cases es with
  | nil =>
    dsimp only at po
    rw [h0 rfl] at po
    refine PySem.W.callWith_KW0 (h₀ := C.X.base) I.ok.mod.kin K.kp k1 (fin (us := []) (Us := []) (xs := []) I .nil rl rfl po) ?_
    show (false || (backToKw pos (keywordEach kws C.X.env)).any (·.1.isNone)) = false
    rw [k3]; rfl
  | cons e es =>
    have hs' := hs
    rw [List.all_cons, Bool.and_eq_true] at hs'
    refine PySem.W.callWith_KW (h₀ := C.X.base) I.ok.mod.kin K.kp k1 (thn (ha.run pos pins s σ H (fun Us H1 => ∃ φ1 h1 xs, Rl C φ1 h1 ρ σ H1 ∧ VRs C.Γ φ1 H1 (C.W σ H1) xs Us ∧ Po C φ1 σ H1 ((gk ρ h1).bnd fun ws h => if xs.length = na ∧ ws.length = nk then (match getAll (xs ++ ws) perm with
        | some us => (cal us h).nxf F.flag
        | none => .err) else .err) (fun v φ' _ H' => ∀ V, VR C.Γ φ' H' (C.W σ H') v V → Q V H')) I
      (tA.mk rl (po.bnd.imp fun xs φ1 h1 H1 s1 hr1 p1 Us vs rl1 => ⟨φ1, h1, xs, rl1, vs, p1⟩))) fun us s1 ⟨Us, H1, I1, r, φ1, h1, xs, rl1, vs, q⟩ => fin I1 r rl1 vs q) ?_ (starEach_cons (by simpa using hs'.1))
    have : (backTo pos (starEach (e :: es) C.X.env)).any (·.1) = false := star_any hs
    rw [this, k3]; rfl
end
end EV
set_option linter.all false
set_option maxRecDepth 100000
set_option maxHeartbeats 1000000
/-! Ev13: repr of an error. -/
namespace EV
open PySem PySem.Spec PySem.Calls PyProof.Rows L2 Builtin Builtin.Str Builtin.BaseException
/-- what repr asks of an error's class -/
structure ClsR (K : PySem.W.Frag) (C : Addr) (n : Str) : Prop where
  rp : PySem.W.findIn K (.ref C) "__repr__" = some (some (.builtin "BaseException.__repr__"))
  sub : PySem.W.subIn K (.ref C) (.type "BaseException") = some true
  name : ∃ cd, PySem.W.clsIn K C = some cd ∧ excReprHead cd.name.toString = n
section
variable {prog : Program} {w : World} {A : Around} {E : Value → Shared → Prop} {s : Shared} {K : PySem.W.Frag} {x C t0 : Addr} {ox : Obj} {od : Option Obj} {n : Str} {v : Value} {d : PyData} {as : List Addr}
theorem name_exc {Q : String → Shared → Prop} {cd : ClassData} {M : Model} (X : K.In s.heap) (hc : PySem.W.clsIn K C = some cd) (I : PySem.W.InstAt s.heap x ox C od) (hq : Q cd.name.toString s) : wpAny M A (typeNameOfWhole (.ref x)) Q E s := by
  unfold typeNameOfWhole shownTypeOf
  refine wpAny_bind (wpAny_bind ((I.type (M := M)).here ?_))
  rw [if_neg (show ¬ ((Value.ref C == Value.type "builtin_function_or_method") = true) from by simp)]
  refine wpAny_pure ?_
  show wpAny _ _ (do return (← classData C).name.toString) _ _ _
  exact wpAny_bind ((PySem.W.looks_clsIn X hc).here (wpAny_pure hq))
theorem args_exc {M : Model} {Q : Value × List Value → Shared → Prop} {items : List Value} (I : s.heap.get? x = some ox) (hd : ∃ vs, ox.data = .fields vs ∧ vs[0]? = some (.ref t0)) (ht : s.heap.TupAt t0 items) (hq : Q (.ref t0, items) s) : wpAny M A (bexcArgs (.ref x)) Q E s := by
  obtain ⟨vs, hd, h0⟩ := hd
  obtain ⟨ot, k, hto, _, htd⟩ := ht
  unfold bexcArgs
  refine wpAny_bind (wpAny_field I hd h0 (wpAny_bind (wpAny_seqItems hto htd ?_)))
  have : items.toArray.toList = items := by simp
  show wpAny M A (pure (Value.ref t0, items.toArray.toList)) Q E s
  rw [this]; exact wpAny_pure hq
theorem repr_exc {Q : Value → Shared → Prop} (X : K.In s.heap) (T : ClsR K C n) (I : PySem.W.InstAt s.heap x ox C od) (hd : ∃ vs, ox.data = .fields vs ∧ vs[0]? = some (.ref t0)) (ht : s.heap.TupAt t0 [v]) (rd : Reads s.heap v d as)
    (hs : d.showable = true) (hsm : d.hasDict = true → sysModules ∉ as) (hg : A.guards = some []) (hu : A.units + (d.depth + 10) < cLine) (hz : n.length + 1 + d.shown.length + 1 ≤ sizeLine)
    (hq : ∀ h' tk u, (∀ b o, s.heap.get? b = some o → h'.get? b = some o) → Q (.str (n ++ Str.ofString "(" ++ d.shown ++ Str.ofString ")") u) { s with heap := h', toks := tk }) :
    wpAny (model prog w) A (call (.builtin "repr") [.ref x]) Q E s := by
  have S := PySem.F.excStr_ValueError.repr
  have L0 := I.type (M := model prog w)
  have L1 := PySem.W.looks_findIn (M := model prog w) X T.rp
  have sub : PySem.W.Looks (model prog w) s.heap (isInstance (.ref x) (.type "BaseException")) true := L0.andThen (PySem.W.looks_subIn X T.sub)
  refine Calls.call_function_entry F.kind_repr F.plain_repr F.entry_repr (F.args_repr1 _) ?_
  unfold Builtin.«repr»
  refine wpAny_bind (m := oneArg "repr" _) (wpAny_pure ?_)
  refine wpAny_bind (wpAny_cRoomFor (show A.in1.units < cLine from by show A.units + 1 < cLine; omega) ?_)
  refine wpAny_bind (wpAny_bind (L0.here (L1.here ?_)))
  refine wpAny_bind (m := callSpecialIfBound? (.ref x) (Str.ofString "__repr__")) ?_
  obtain ⟨cd, hcd, hn⟩ := T.name
  have body : ∀ {E : Value → Shared → Prop}, wpAny (model prog w) A.in1 (call (.builtin "BaseException.__repr__") [.ref x]) (fun r s' => ∃ h' tk u, r = .str (n ++ Str.ofString "(" ++ d.shown ++ Str.ofString ")") u ∧ s' = { s with heap := h', toks := tk } ∧ ∀ b o, s.heap.get? b = some o → h'.get? b = some o) E s := fun {E} => by
    refine wpAny_call (codeAny_call_builtin S.plain F.entry_bexc_repr ?_)
    refine @PySem.W.check_slot (model prog w) _ _ s "BaseException.__repr__" "BaseException" "__repr__" (.ref x) [] [] _ (by decide +kernel) (by decide +kernel) sub (F.args_bexc_repr (.ref x)) ?_
    show wpAny _ _ (Builtin.bexcReprAt 0 ⟨[.ref x], []⟩) _ _ _
    unfold Builtin.bexcReprAt
    obtain ⟨bs, _, rk⟩ := ReprK.of_reads (prog := prog) (w := w) rd hs hsm (by omega)
    refine wpAny_bind (wpAny_of_eq (a := ((Value.ref x : Value), ([] : List Value))) (by first | rfl | (simp only [slotArgs]; rfl)) ?_)
    refine wpAny_bind (name_exc X hcd I ?_)
    refine wpAny_bind (args_exc I.at_ hd ht ?_)
    have hn' : Str.ofString ((cd.name.toString.cutAt '.').getLastD "") = n := hn
    dsimp only
    rw [hn']
    refine wpAny_bind (wpAny_rule ?_)
    have eP : (Str.ofString "(").length = 1 := by rw [PySem.ofString_length]; rfl
    have eQ : (Str.ofString ")").length = 1 := by rw [PySem.ofString_length]; rfl
    refine wpAny_bind (rk _ (by omega) A.in1.in1 [] _ s _ hg (fun b _ => Clear.nil b) (by show A.units + 1 + 1 + d.depth < cLine; omega) (fun _ _ z => z) fun h' tk k => ?_)
    have hzz : (n ++ Str.ofString "(" ++ d.shown ++ Str.ofString ")").length ≤ sizeLine := by
      rw [strLen_append, strLen_append, strLen_append, eP, eQ]; omega
    repeat wp_step
    exact ⟨h', _, _, rfl, rfl, k⟩
  simp only [callSpecialIfBound?, bindSpecialIfBound?]
  refine wpAny_holding (wpAny_bind (wpAny_bind (wpAny_bind (L0.here (L1.here ?_)))))
  simp only [S.bind]
  refine wpAny_bind (wpAny_askSetting (wpAny_ite ?_))
  have fin : ∀ {Q' : Option Value → Shared → Prop}, (∀ h' tk u, (∀ b o, s.heap.get? b = some o → h'.get? b = some o) → Q' (some (.str (n ++ Str.ofString "(" ++ d.shown ++ Str.ofString ")") u)) { s with heap := h', toks := tk }) →
      wpAny (model prog w) A.in1 (call (.builtin "BaseException.__repr__") ([.ref x] ++ []) >>= fun v => pure (some v)) Q' E s := fun {Q'} q =>
      wpAny_bind (wpAny_mono body (fun v s' h' => by
        obtain ⟨h1, tk, u, rfl, rfl, k⟩ := h'
        exact wpAny_pure (q h1 tk u k)) fun _ _ z => z)
  split
  · exact wpAny_bind (wpAny_pure (wpAny_pure (fin fun h' tk u k => wpAny_bind (wpAny_isInstance (T := "str") (b := true) rfl isSubtype_str_str (wpAny_pure ⟨_, rfl, hq h' tk u k⟩)))))
  · exact wpAny_tryCatch (wpAny_bind (wpAny_pure (wpAny_pure (fin fun h' tk u k => wpAny_bind (wpAny_isInstance (T := "str") (b := true) rfl isSubtype_str_str (wpAny_pure ⟨_, rfl, hq h' tk u k⟩))))))
end
end EV
set_option linter.all false
set_option maxRecDepth 100000
set_option maxHeartbeats 1000000
/-! Ev14: isinstance, fields, repr as expressions. -/
namespace EV
open PySem PySem.Spec PySem.Calls PyProof.Rows L2
section
variable {C : Ct}
theorem pa_two {a : Expr} {x : Str} {p2 : Pos} {f V} (hs : isStar a = false) (ha : PE C.X a (tE C f)) (hx : PE C.X (.Name x p2) (tC V)) : PA C.X [a, .Name x p2] (tCons (tE C f) (tCons (tC V) tNil)) :=
  pa_cons ha (pa_cons hx pa_nil rfl) (starEach_cons hs)
/-- isinstance(e, BadX) -/
theorem se_isx {c2 : Nat} {sub : Nat → Nat → Bool} {a : Expr} {x : Str} {p p2 pos : Pos} {f} (ics : ∀ c, ExcC C.X.K (C.Γ.clsA c)) (hsub : ∀ c, PySem.W.kitOne C.X.K (.ref (C.Γ.clsA c)) (.ref (C.Γ.clsA c2)) = some (sub c c2))
    (hnone : PySem.W.kitOne C.X.K (.type "NoneType") (.ref (C.Γ.clsA c2)) = some false)
    (hg : Gl C.X "isinstance") (hm : C.X.mg "isinstance" = none) (hg2 : Gl C.X x) (hm2 : C.X.mg x = some (.ref (C.Γ.clsA c2))) (hd : (x == ("__debug__" : Str)) = false) (hs : isStar a = false) (ha : PE C.X a (tE C f)) :
    PE C.X (.Call (.Name "isinstance" p) [a, .Name x p2] [] pos) (tE C fun ρ h => (f ρ h).bnd fun v h => match v with
      | .exc _ d _ => .ok (.bl (sub d c2)) h
      | .non => .ok (.bl false) h
      | _ => .err) := by
  refine ⟨fun pins s σ H Q I ⟨φ, ρ, h, rl, po⟩ => ?_⟩
  have hpa := pa_two (C := C) (p2 := p2) (V := .ref (C.Γ.clsA c2)) hs ha (pe_glob hg2 hm2 rfl hd)
  have hst : starEach [a, .Name x p2] C.X.env = (false, eval a C.X.env) :: starEach [.Name x p2] C.X.env := starEach_cons hs
  -- which rule is taken hangs on the value
  dsimp only at po
  cases e : f ρ h with
  | ok v h1 =>
    have po : Po C φ σ H (match v with
      | .exc _ d _ => Rz.ok (PV.bl (sub d c2)) h1
      | .non => .ok (.bl false) h1
      | _ => .err) (fun v φ' _ H' => ∀ V, VR C.Γ φ' H' (C.W σ H') v V → Q V H') := by rw [e] at po; exact po
    cases v with
    | exc p0 d w =>
      refine (pe_callB (call_isx ics (.ref (C.Γ.clsA c2))) hg hm (by decide +kernel) hpa (by decide) (by decide) hst (by rfl)).run pins s σ H Q I ?_
      refine tE.of rl e fun φ' H' V s' hr vr => ?_
      exact ⟨φ', _, p0, d, w, V, .ref (C.Γ.clsA c2), _, rfl, .own _, vr, hsub d, po φ' H' s' hr (.bl (sub d c2)) rfl⟩
    | non =>
      refine (pe_callB call_isi hg hm (by decide +kernel) hpa (by decide) (by decide) hst (by rfl)).run pins s σ H Q I ?_
      refine tE.of rl e fun φ' H' V s' hr vr => ?_
      obtain rfl := vr_non vr
      exact ⟨.non, .ref (C.Γ.clsA c2), .type "NoneType", _, false, rfl, .own _, .base .non, hnone, po φ' H' s' hr (.bl false) rfl⟩
    | _ => exact po.elim
  | ex c v h1 =>
    rw [e] at po
    refine (pe_callB call_isi hg hm (by decide +kernel) hpa (by decide) (by decide) hst (by rfl)).run pins s σ H Q I ?_
    exact ⟨φ, ρ, h, rl, by rw [e]; exact po⟩
  | err => rw [e] at po; exact po.elim
def Ty.tyv : Ty → V
  | t => .ty t.name
theorem bltn_ty {t : Ty} {p2 : Pos} (hg2 : Gl C.X t.sname) (hm2 : C.X.mg t.sname = none) : PE C.X (.Name t.sname p2) (tC (.ty t.name)) := by
  cases t
  case int => exact pe_bltn hg2 hm2 (by decide +kernel) (show RelV (.ty "int") (.type "int") from rfl) (by decide) (by decide)
  case bool => exact pe_bltn hg2 hm2 (by decide +kernel) (show RelV (.ty "bool") (.type "bool") from rfl) (by decide) (by decide)
  case str => exact pe_bltn hg2 hm2 (by decide +kernel) (show RelV (.ty "str") (.type "str") from rfl) (by decide) (by decide)
  case tuple => exact pe_bltn hg2 hm2 (by decide +kernel) (show RelV (.ty "tuple") (.type "tuple") from rfl) (by decide) (by decide)
  case list => exact pe_bltn hg2 hm2 (by decide +kernel) (show RelV (.ty "list") (.type "list") from rfl) (by decide) (by decide)
  case verr => exact pe_bltn hg2 hm2 (by decide +kernel) (show RelV (.ty "ValueError") (.type "ValueError") from rfl) (by decide) (by decide)
/-- isinstance(e, int) .. -/
theorem se_isi {t : Ty} {a : Expr} {p p2 pos : Pos} {f} (hK : C.X.K = C.Γ.K) (ics : ∀ c, ExcC C.X.K (C.Γ.clsA c)) (hve : ∀ c, PySem.W.kitOne C.X.K (.ref (C.Γ.clsA c)) (.type "ValueError") = some true)
    (hg : Gl C.X "isinstance") (hm : C.X.mg "isinstance" = none) (hg2 : Gl C.X t.sname) (hm2 : C.X.mg t.sname = none) (hs : isStar a = false) (ha : PE C.X a (tE C f)) :
    PE C.X (.Call (.Name "isinstance" p) [a, .Name t.sname p2] [] pos) (tE C fun ρ h => (f ρ h).bnd fun v h => match isV t v h with
      | some b => .ok (.bl b) h
      | none => .err) := by
  refine ⟨fun pins s σ H Q I ⟨φ, ρ, h, rl, po⟩ => ?_⟩
  have hpa := pa_two (C := C) (p2 := p2) (V := .ty t.name) hs ha (bltn_ty hg2 hm2)
  have hst : starEach [a, .Name t.sname p2] C.X.env = (false, eval a C.X.env) :: starEach [.Name t.sname p2] C.X.env := starEach_cons hs
  dsimp only at po
  cases e : f ρ h with
  | ok v h1 =>
    have po : Po C φ σ H (match isV t v h1 with
      | some b => Rz.ok (PV.bl b) h1
      | none => .err) (fun v φ' _ H' => ∀ V, VR C.Γ φ' H' (C.W σ H') v V → Q V H') := by rw [e] at po; exact po
    have go : ∀ {n : String} {b : Bool}, isV t v h1 = some b → kitB n t.name = some b → (∀ φ' H' V, Stp φ φ' H H' → HR C.Γ φ' H' (C.W σ H') h1 → VR C.Γ φ' H' (C.W σ H') v V → TyX C.X.K H' V (.type n)) → wpAny (model C.X.prog C.X.w) C.X.A (eval (.Call (.Name "isinstance" p) [a, .Name t.sname p2] [] pos) C.X.env) (EP C.X pins σ Q) C.X.xe s := fun {n b} ei hb ty => by
      rw [ei] at po
      refine (pe_callB call_isi hg hm (by decide +kernel) hpa (by decide) (by decide) hst (by rfl)).run pins s σ H Q I ?_
      refine tE.of rl e fun φ' H' V s' hr vr => ?_
      exact ⟨V, .ty t.name, .type n, _, b, rfl, .ty _, ty φ' H' V s' hr vr, kit_ty hb, po φ' H' s' hr (.bl b) rfl⟩
    cases v with
    | non => cases t <;> exact go (n := "NoneType") rfl (by decide +kernel) fun φ' H' V s' hr vr => by obtain rfl := vr_non vr; exact .base .non
    | bl b => cases t <;> exact go (n := "bool") rfl (by decide +kernel) fun φ' H' V s' hr vr => by obtain rfl := vr_bl vr; exact .base (.bl b)
    | int b => cases t <;> exact go (n := "int") rfl (by decide +kernel) fun φ' H' V s' hr vr => by obtain rfl := vr_int vr; exact .base (.int b)
    | str b => cases t <;> exact go (n := "str") rfl (by decide +kernel) fun φ' H' V s' hr vr => by obtain rfl := vr_str vr; exact .base (.str b)
    | tup b =>
      have ty : ∀ φ' H' V, Stp φ φ' H H' → HR C.Γ φ' H' (C.W σ H') h1 → VR C.Γ φ' H' (C.W σ H') (.tup b) V → TyX C.X.K H' V (.type "tuple") := fun φ' H' V s' hr vr => by
        obtain ⟨q, vs, rfl, st, _⟩ := vr_tup vr
        rw [hK]
        rcases st with (st | ⟨o, st⟩) | ⟨o, its, n, st, sc, _⟩
        · exact .base (.tup st)
        · exact .fTuple st
        · exact .kTuple st sc
      cases t <;> exact go (n := "tuple") rfl (by decide +kernel) ty
    | ref m =>
      cases eh : h1[m]? with
      | none => simp only [isV, eh] at po; exact po.elim
      | some o =>
        cases o with
        | lst fz xs =>
          have ty : ∀ φ' H' V, Stp φ φ' H H' → HR C.Γ φ' H' (C.W σ H') h1 → VR C.Γ φ' H' (C.W σ H') (.ref m) V → TyX C.X.K H' V (.type "list") := fun φ' H' V s' hr vr => by
            simp only [VR] at vr
            obtain ⟨q, eq, rfl⟩ := vr
            have z := hr.at_ m _ q eh eq
            cases fz with
            | false => obtain ⟨vs, z, _⟩ := z; exact .base (.lst z)
            | true => obtain ⟨vs, ⟨o, z⟩, _⟩ := z; exact .base (.frz z)
          cases t <;> exact go (n := "list") (by simp only [isV, eh]; rfl) (by decide +kernel) ty
        | dct0 =>
          have ty : ∀ φ' H' V, Stp φ φ' H H' → HR C.Γ φ' H' (C.W σ H') h1 → VR C.Γ φ' H' (C.W σ H') (.ref m) V → TyX C.X.K H' V (.type "dict") := fun φ' H' V s' hr vr => by
            simp only [VR] at vr
            obtain ⟨q, eq, rfl⟩ := vr
            exact .base (.dK (hr.at_ m _ q eh eq))
          cases t <;> exact go (n := "dict") (b := false) (by simp only [isV, eh]) (by decide +kernel) ty
        | dead => simp only [isV, eh] at po; exact po.elim
    | exc p0 d w =>
      cases t
      case verr =>
        have po : Po C φ σ H (Rz.ok (PV.bl true) h1) (fun v φ' _ H' => ∀ V, VR C.Γ φ' H' (C.W σ H') v V → Q V H') := po
        refine (pe_callB (call_isx ics (.type "ValueError")) hg hm (by decide +kernel) hpa (by decide) (by decide) hst (by rfl)).run pins s σ H Q I ?_
        refine tE.of rl e fun φ' H' V s' hr vr => ?_
        exact ⟨φ', _, p0, d, w, V, .ty "ValueError", true, rfl, .ty _, vr, hve d, po φ' H' s' hr (.bl true) rfl⟩
      all_goals exact po.elim
    | clo k xs => exact po.elim
  | ex c v h1 =>
    rw [e] at po
    refine (pe_callB call_isi hg hm (by decide +kernel) hpa (by decide) (by decide) hst (by rfl)).run pins s σ H Q I ?_
    exact ⟨φ, ρ, h, rl, by rw [e]; exact po⟩
  | err => rw [e] at po; exact po.elim
/-- err.value -/
theorem se_attr {a : Expr} {pos : Pos} {f} (ics : ∀ c, ExcC C.X.K (C.Γ.clsA c)) (hv : ∀ c, PySem.W.findIn C.X.K (.ref (C.Γ.clsA c)) "value" = some none) (hb : attributeBase a "value" C.X.env (eval a C.X.env) = eval a C.X.env) (ha : PE C.X a (tE C f)) :
    PE C.X (.Attribute a "value" pos) (tE C fun ρ h => (f ρ h).bnd fun x h => match x with
      | .exc _ _ v => .ok v h
      | _ => .err) := by
  refine ⟨fun pins s σ H Q I ⟨φ, ρ, h, rl, po⟩ => ?_⟩
  refine attr_of hb (thn (ha.run pins s σ H _ I (tE.mk (Q := fun V H1 => ∃ φ1 p c v h1, HR C.Γ φ1 H1 (C.W σ H1) h1 ∧ VR C.Γ φ1 H1 (C.W σ H1) (.exc p c v) V ∧ Po C φ1 σ H1 (.ok v h1) (fun v φ' _ H' => ∀ V, VR C.Γ φ' H' (C.W σ H') v V → Q V H')) rl (po.bnd.imp fun x φ1 h1 H1 s1 hr1 p1 V vr rl1 => ?_))) fun u s1 hh => ?_)
  · cases x with
    | exc p c v => exact ⟨φ1, p, c, v, h1, hr1, vr, p1⟩
    | _ => exact p1.elim
  · obtain ⟨V, H1, I1, ru, φ1, p, c, v, h1, hr1, vr, p1⟩ := hh
    obtain ⟨b, d, y, oe, od, rfl, J, hd, vy, ho, _⟩ := exc_inst I1 vr
    obtain rfl : u = Value.ref b := ru
    have hx : ObjOk C.X.prog C.X.w H1 s1.heap d (.xd [("value", y)]) := I1.hok d _ hd
    obtain ⟨mA, hns, hr⟩ := hx
    obtain ⟨od', ho', hl⟩ := lookIn_ns hns
    rw [ho] at ho'
    cases ho'
    obtain ⟨u2, hu, ru2⟩ := RelO.some_of (v := y) (o := mA "value") (hr "value")
    have T := ics c
    exact HandSPX.exc_get I1.kIn J T.hg T.hk T.hs (PySem.W.findObj_own T.hd (hv c) rfl (by rw [hl, hu])) (handed_of ru2) ⟨y, H1, I1.tok _, ru2, p1.ok' hr1 y vy⟩
/-- repr(e) of any value -/
theorem se_rpx {cnm : Nat → Str} {a : Expr} {p pos : Pos} {f} (hK : C.X.K = C.Γ.K) (hc : C.X.calm = true) (hu : C.X.A.units + 90 < cLine) (hgd : C.X.A.guards = some []) (hr : ∀ c, ClsR C.X.K (C.Γ.clsA c) (cnm c))
    (hg : Gl C.X "repr") (hm : C.X.mg "repr" = none) (hs : isStar a = false) (ha : PE C.X a (tE C f)) :
    PE C.X (.Call (.Name "repr" p) [a] [] pos) (tE C fun ρ h => (f ρ h).bnd fun x h => match x with
      | .exc true c v => match dataOf h v with
        | some d => if dictOk d = true ∧ d.showable = true ∧ d.depth ≤ 60 ∧ (cnm c).length + d.shown.length + 2 ≤ sizeLine then .ok (.str (cnm c ++ Str.ofString "(" ++ d.shown ++ Str.ofString ")")) h else .err
        | none => .err
      | _ => reprV x h) := by
  have rl0 : CallR C.X (.builtin "repr") (fun xs H Q => ∃ σ φ ρ h x V, xs = [V] ∧ Rl C φ h ρ σ H ∧ VR C.Γ φ H (C.W σ H) x V ∧ Po C φ σ H (match x with
      | .exc true c v => match dataOf h v with
        | some d => if dictOk d = true ∧ d.showable = true ∧ d.depth ≤ 60 ∧ (cnm c).length + d.shown.length + 2 ≤ sizeLine then .ok (.str (cnm c ++ Str.ofString "(" ++ d.shown ++ Str.ofString ")")) h else .err
        | none => .err
      | _ => reprV x h) (fun v φ' _ H' => ∀ V, VR C.Γ φ' H' (C.W σ H') v V → Q V H')) := by
    intro pins s σ' H xs us Q I r hh
    obtain ⟨σ, φ, ρ, h, x, V, rfl, rl, vx, po⟩ := hh
    have other : (∀ c v, x ≠ .exc true c v) → wpAny (model C.X.prog C.X.w) C.X.A (call (.builtin "repr") us) (EP C.X pins σ' Q) C.X.xe s := fun hne => by
      refine call_V (C := C) hK hc (by omega) hgd .repr _ rfl pins s σ' H _ us Q I r ⟨σ, φ, ρ, h, [x], rl, ⟨V, [], rfl, vx, rfl⟩, ?_⟩
      have e : bltV .repr [x] h = reprV x h := rfl
      rw [e]
      cases x with
      | exc p c v =>
        cases p with
        | true => exact absurd rfl (hne c v)
        | false => exact po
      | _ => exact po
    cases x with
    | exc p c v =>
      cases p with
      | false => exact other fun c' v' z => by cases z
      | true =>
        dsimp only at po
        cases ed : dataOf h v with
        | none => rw [ed] at po; exact po.elim
        | some d =>
          rw [ed] at po
          obtain ⟨⟨c0, c1, c2, c3⟩, po⟩ := po.if_
          obtain ⟨u, rfl, ru⟩ := Vals.one r
          have vx' := vx
          simp only [VR] at vx'
          obtain ⟨b, dx, y, rfl, ⟨t0, h1, h2⟩, h3, vy⟩ := vx'
          obtain ⟨b', d', y', oe, od, q, J, q2, _, _, _⟩ := exc_inst I vx
          cases q
          obtain rfl : u = Value.ref b := ru
          have z : ObjOk C.X.prog C.X.w H s.heap b (ExA (.ref (C.Γ.clsA c)) dx t0 b) := I.hok b _ h1
          have z1 : s.heap.get? b = some _ := z.1
          rw [J.at_] at z1
          cases z1
          obtain ⟨its, rv, ht, hz⟩ := I.tuple (ofK hK h2)
          cases rv with
          | cons ry rn =>
            cases rn
            rename_i yv
            obtain ⟨as, rd, ns⟩ := reads_of hK I rl.hr ed vy ry
            refine repr_exc I.kIn (hr c) J ⟨_, rfl, rfl⟩ (let ⟨o, g1, g2, n, g3⟩ := ht; ⟨o, n, g1, g2, g3⟩) rd c1 (fun z => ?_) hgd (by omega) (by omega) fun h' tk u k => ⟨.str _, H, I.kept k, ⟨u, rfl⟩, po.ok' rl.hr _ rfl⟩
            obtain ⟨kvs, e⟩ := dictOk_of c0 z
            exact ns kvs e
    | _ => exact other fun c' v' z => by cases z
  refine (pe_callB rl0 hg hm (by decide +kernel) (pa_one hs ha) (by decide) (by decide) (starEach_cons hs) (by rfl)).imp fun σ H Q ⟨φ, ρ, h, rl, po⟩ => ?_
  refine tE.mk rl (po.bnd.imp fun x φ1 h1 H1 s1 hr1 p1 V v rl1 => ?_)
  exact ⟨σ, φ1, ρ, h1, x, V, rfl, rl1, v, p1⟩
end
end EV
set_option linter.all false
set_option maxRecDepth 100000
set_option maxHeartbeats 1000000
/-! EvA: name op= e. -/
namespace EV
open PySem PySem.Spec PyProof.Rows L2
def tiA (op : Operator) : TIp := match op with
  | .Add => ipI fun i j => i + j
  | .Sub => ipI fun i j => i - j
  | .Mult => fun x y H Q => ∃ i j, x = .int i ∧ y = .int j ∧ MulOk i j ∧ Q (.int (i * j)) H
  | _ => fun _ _ _ _ => False
theorem pip_ok {X : Cx} (op : Operator) : PIp X op (tiA op) := by
  cases op
  case Add => exact ip_add
  case Sub => exact ip_sub
  case Mult =>
    intro pins s σ H x y v u Q I r1 r2 h
    obtain ⟨i, j, e1, e2, c, q⟩ := h
    subst e1; subst e2
    obtain ⟨t, rfl⟩ := r1
    obtain ⟨t', rfl⟩ := r2
    exact imul_int ⟨.int _, H, I.tok _, ⟨_, rfl⟩, q⟩ (CMulW.ok c)
  all_goals exact fun pins s σ H x y v u Q I r1 r2 h => h.elim
section
variable {C : Ct}
def augV (F : Cfg) (i : Nat) (op : Operator) (x y : PV) (ρ : En) (h : Hh) : Rz Fl := match op, x, y with
      | .Add, .int a, .int b => (putS F i (.int (a + b)) ρ h).bnd fun ρ h => .ok (.nx ρ) h
      | .Sub, .int a, .int b => (putS F i (.int (a - b)) ρ h).bnd fun ρ h => .ok (.nx ρ) h
      | .Mult, .int a, .int b => if MulOk a b then (putS F i (.int (a * b)) ρ h).bnd fun ρ h => .ok (.nx ρ) h else .err
      | _, _, _ => .err
theorem ss_aug {F : Cfg} {i : Nat} {x : Str} {op : Operator} {e : Expr} {pos pos' : Pos} {g} (nd : C.X.N.Nodup) (fl : C.flag = true → F.flag = true ∧ F.capd = C.capd) (hi : C.X.N[i]? = some x) (hx : Loc C.X.env.scope x) (hf : C.X.fn x = true ∨ C.X.env.scope.names.lookup x = some .local) (he : PE C.X e (tE C g)) :
    PS C.X (.AugAssign (.Name x pos') op e pos) (tS C fun ρ h => match slot ρ i with
      | some x => (g ρ h).bnd fun y h => augV F i op x y ρ h
      | none => .err) := by
  refine (ps_aug nd hi hx he (pip_ok op) hf).imp fun D σ H ⟨φ, ρ, h, rl, p⟩ => ?_
  dsimp only at p
  cases es : slot ρ i with
  | none => rw [es] at p; exact p.elim
  | some x0 =>
    rw [es] at p
    obtain ⟨V0, e0, v0⟩ := rl.re.get i x0 (slot_some es)
    refine ⟨V0, e0, tE.mk rl (p.bnd.po.imp fun y φ1 h1 H1 s1 hr1 p1 V v rl1 => ?_)⟩
    have v0' := VR.mono s1 (Ct.wm s1) _ _ v0
    have hl : i < σ.length := (List.getElem?_eq_some_iff.mp e0).1
    have fin : ∀ z : Int, PoG C φ1 H1 ((putS F i (.int z) ρ h1).bnd fun ρ h => .ok (.nx ρ) h) (PoF C D) → D.nx (σ.set i (some (.int z))) H1 := fun z q => by
      obtain ⟨ρ', h', rl', q'⟩ := put_ok (x := .int z) (V := .int z) fl rl1 rfl hl (fun _ => loc_nf hi hx) q.bnd
      exact q' φ1 H1 Stp.refl _ rl'
    unfold augV at p1
    split at p1
    · exact ⟨_, _, v0', v, fin _ p1⟩
    · exact ⟨_, _, v0', v, fin _ p1⟩
    · obtain ⟨c, p2⟩ := p1.if_
      exact ⟨_, _, v0', v, c, fin _ p2⟩
    · exact p1.elim
end
end EV
set_option linter.all false
set_option maxRecDepth 100000
set_option maxHeartbeats 1000000
/-! EvB: a, b, c = x, y, z with plain local names. -/
namespace EV
open PySem PySem.Spec PyProof.Rows L2
section
variable {X : Cx} {pos : Pos}
def tPar3 (i j k : Nat) (ta : TA) : TS := fun D σ H => ta σ H fun vs H1 => ∃ v w z, vs = [v, w, z] ∧ D.nx (((σ.set i (some v)).set j (some w)).set k (some z)) H1
theorem ps_par3 {i j k : Nat} {x y z : Str} {a b c : Expr} {ta : TA} {px py pz pt : Pos} {kt k2 pt2} (hc : X.calm = true) (hN : X.N.Nodup) (hi : X.N[i]? = some x) (hj : X.N[j]? = some y) (hk : X.N[k]? = some z) (hij : i ≠ j) (hik : i ≠ k) (hjk : j ≠ k)
    (hx : X.env.scope.names.lookup x = some .local) (hy : X.env.scope.names.lookup y = some .local) (hz : X.env.scope.names.lookup z = some .local) (ha : PA X [a, b, c] ta)
    (hw : swappedStores [.Tuple [.Name x px, .Name y py, .Name z pz] kt pt] (.Tuple [a, b, c] k2 pt2) X.env = pure (some [x, y, z]))
    (hs : swapsWithSole [.Tuple [.Name x px, .Name y py, .Name z pz] kt pt] (.Tuple [a, b, c] k2 pt2) pos.line X.env = pure false := by rfl) :
    PS X (.Assign [.Tuple [.Name x px, .Name y py, .Name z pz] kt pt] (.Tuple [a, b, c] k2 pt2) pos) (tPar3 i j k ta) := by
  refine ⟨fun pins s σ H D I h => ?_⟩
  rw [exec_Assign_arm]
  refine wpAny_bind (wpAny_standAt ?_)
  rw [hs]
  refine wpAny_bind (wpAny_pure ?_)
  rw [if_neg (by decide)]
  refine wpAny_bind (Tuple_ (thn (ha.run _ pins s σ H _ I h) fun us s1 ⟨vs, H1, I1, r1, q1⟩ => ?_))
  obtain ⟨v, w, t, e1, q1⟩ := q1
  subst e1
  obtain ⟨u1, u2, u3, rfl, rv, rw', rt⟩ : ∃ u1 u2 u3, us = [u1, u2, u3] ∧ RelV v u1 ∧ RelV w u2 ∧ RelV t u3 := by
    cases r1 with
    | cons p q =>
      cases q with
      | cons p' q' =>
        cases q' with
        | cons p'' q'' =>
          cases q''
          exact ⟨_, _, _, rfl, p, p', p''⟩
  refine wpAny_newObj_type ?_ (by show 3 ≤ sizeLine; decide)
  have I2 : Inv X pins σ H1 { s1 with heap := s1.heap.push { cls := .type "tuple", data := .seq [u1, u2, u3].toArray } } := I1.kept (t' := s1.toks) fun b o e => Heap.get?_push_of_some _ e
  rw [hw]
  refine wpAny_bind (wpAny_pure ?_)
  show wpAny (model X.prog X.w) X.A (do rule "assign.swapped-stores"; let items ← unpackItems (.ref s1.heap.objs.size) 3 none; assignInOrder [fun v => bindName X.env z v, fun v => bindName X.env y v, fun v => bindName X.env x v] items.reverse; pure Flow.next) _ _ _
  refine wpAny_bind (wpAny_rule (wpAny_bind (unpackItems_tuple (items := #[u1, u2, u3]) (I.ok.hd hc) (IsTup.new s1.heap _) fun h' hx' => ?_)))
  have I3 := I2.kept (h' := h') (t' := s1.toks) fun b o e => hx' b o (Nat.ne_of_lt (Heap.lt_size e)) e
  show wpAny _ _ (assignInOrder [fun v => bindName X.env z v, fun v => bindName X.env y v, fun v => bindName X.env x v] [u3, u2, u1] >>= fun _ => pure Flow.next) _ _ _
  refine wpAny_bind (assignInOrder_cons (wpAny_bindName (store_ok I3 hN hk (.inl hz) rt (fun s2 I4 => ?_) (.inr hz))))
  refine assignInOrder_cons (wpAny_bindName (store_ok I4 hN hj (.inl hy) rw' (fun s3 I5 => ?_) (.inr hy)))
  refine assignInOrder_cons (wpAny_bindName (store_ok I5 hN hi (.inl hx) rv (fun s4 I6 => assignInOrder_nil (wpAny_pure ?_)) (.inr hx)))
  have e : ((σ.set k (some t)).set j (some w)).set i (some v) = ((σ.set i (some v)).set j (some w)).set k (some t) := by
    rw [List.set_comm _ _ (Ne.symm hij), List.set_comm _ _ (Ne.symm hik), List.set_comm _ _ (Ne.symm hjk)]
  rw [e] at I6
  exact ⟨_, H1, I6, q1⟩
end
section
variable {C : Ct}
def setAll (σ : L2.St) : List Nat → List V → L2.St
  | i :: is, v :: vs => setAll (σ.set i (some v)) is vs
  | _, _ => σ
theorem par_ok {F : Cfg} (fl : C.flag = true → F.flag = true ∧ F.capd = C.capd) {D : Ends} : ∀ (is : List Nat) (xs : List PV) (Vs : List V) {φ h ρ σ H}, Rl C φ h ρ σ H → VRs C.Γ φ H (C.W σ H) xs Vs → (∀ i ∈ is, i < σ.length ∧ ∀ y, C.X.N[i]? = some y → C.X.env.kindOf y ≠ some .free) →
    PoG C φ H (parV F is xs ρ h) (PoF C D) → Vs.length = is.length ∧ D.nx (setAll σ is Vs) H
  | [], [], Vs, φ, h, ρ, σ, H, rl, v, hl, p => by
    have e : Vs = [] := v
    subst e
    exact ⟨rfl, p φ H Stp.refl σ rl⟩
  | i :: is, x :: xs, Vs, φ, h, ρ, σ, H, rl, v, hl, p => by
    obtain ⟨v1, vr, e, k1, k2⟩ := v
    subst e
    obtain ⟨c, p⟩ := (show PoG C φ H (if (!F.flag || PV.noClos xs) = true then (putS F i x ρ h).bnd fun ρ h => parV F is xs ρ h else .err) (PoF C D) from p).if_
    obtain ⟨ρ', h', rl', q⟩ := put_ok fl rl k1 (hl i (List.mem_cons_self ..)).1 (fun _ => (hl i (List.mem_cons_self ..)).2) p.bnd
    have k3 : VRs C.Γ φ H (C.W (σ.set i (some v1)) H) xs vr := by
      cases hf : C.flag with
      | false => exact k2.w fun c v z => Ct.w_on c v (Ct.w_off hf c v z)
      | true =>
        obtain ⟨f1, _⟩ := fl hf
        rw [f1] at c
        exact VRs.noClo _ _ (by simpa using c) k2
    obtain ⟨l, d⟩ := par_ok fl is xs vr rl' k3 (fun j hj => ⟨by rw [List.length_set]; exact (hl j (List.mem_cons_of_mem _ hj)).1, (hl j (List.mem_cons_of_mem _ hj)).2⟩) q
    exact ⟨by rw [List.length_cons, List.length_cons, l], d⟩
  | [], _ :: _, _, _, _, _, _, _, _, _, _, p => p.elim
  | _ :: _, [], _, _, _, _, _, _, _, _, _, p => p.elim
theorem ss_par2 {F : Cfg} {i j : Nat} {x y : Str} {a b : Expr} {px py pt pos : Pos} {kt k2 pt2} {g} (fl : C.flag = true → F.flag = true ∧ F.capd = C.capd) (hc : C.X.calm = true) (hN : C.X.N.Nodup) (hi : C.X.N[i]? = some x) (hj : C.X.N[j]? = some y) (hij : i ≠ j)
    (hx : C.X.env.scope.names.lookup x = some .local) (hy : C.X.env.scope.names.lookup y = some .local) (ha : PA C.X [a, b] (tA C g))
    (hw : swappedStores [.Tuple [.Name x px, .Name y py] kt pt] (.Tuple [a, b] k2 pt2) C.X.env = pure (some [x, y]))
    (hs : swapsWithSole [.Tuple [.Name x px, .Name y py] kt pt] (.Tuple [a, b] k2 pt2) pos.line C.X.env = pure false) :
    PS C.X (.Assign [.Tuple [.Name x px, .Name y py] kt pt] (.Tuple [a, b] k2 pt2) pos) (tS C fun ρ h => (g ρ h).bnd fun vs h => parV F [i, j] vs ρ h) := by
  refine ⟨fun pins s σ H D I ⟨φ, ρ, h, rl, p⟩ => (ps_par hc hN hi hj hij hx hy ha hw hs).run pins s σ H D I ?_⟩
  have hsz := I.len
  refine tA.mk rl (p.bnd.po.imp fun xs φ1 h1 H1 s1 hr1 p1 Vs vs rl1 => ?_)
  have l1 := (List.getElem?_eq_some_iff.mp hi).1
  have l2 := (List.getElem?_eq_some_iff.mp hj).1
  obtain ⟨l, d⟩ := par_ok fl [i, j] xs Vs rl1 vs (fun k hk => by
    rw [hsz]
    rcases List.mem_cons.mp hk with rfl | hk
    · exact ⟨l1, loc_nf hi (.inl hx)⟩
    · rw [List.mem_singleton.mp hk]; exact ⟨l2, loc_nf hj (.inl hy)⟩) p1
  match Vs, l with
  | [v, w], _ => exact ⟨v, w, rfl, d⟩
theorem ss_par3 {F : Cfg} {i j k : Nat} {x y z : Str} {a b c : Expr} {px py pz pt pos : Pos} {kt k2 pt2} {g} (fl : C.flag = true → F.flag = true ∧ F.capd = C.capd) (hc : C.X.calm = true) (hN : C.X.N.Nodup) (hi : C.X.N[i]? = some x) (hj : C.X.N[j]? = some y) (hk : C.X.N[k]? = some z) (hij : i ≠ j) (hik : i ≠ k) (hjk : j ≠ k)
    (hx : C.X.env.scope.names.lookup x = some .local) (hy : C.X.env.scope.names.lookup y = some .local) (hz : C.X.env.scope.names.lookup z = some .local) (ha : PA C.X [a, b, c] (tA C g))
    (hw : swappedStores [.Tuple [.Name x px, .Name y py, .Name z pz] kt pt] (.Tuple [a, b, c] k2 pt2) C.X.env = pure (some [x, y, z]))
    (hs : swapsWithSole [.Tuple [.Name x px, .Name y py, .Name z pz] kt pt] (.Tuple [a, b, c] k2 pt2) pos.line C.X.env = pure false) :
    PS C.X (.Assign [.Tuple [.Name x px, .Name y py, .Name z pz] kt pt] (.Tuple [a, b, c] k2 pt2) pos) (tS C fun ρ h => (g ρ h).bnd fun vs h => parV F [i, j, k] vs ρ h) := by
  refine ⟨fun pins s σ H D I ⟨φ, ρ, h, rl, p⟩ => (ps_par3 hc hN hi hj hk hij hik hjk hx hy hz ha hw hs).run pins s σ H D I ?_⟩
  have hsz := I.len
  refine tA.mk rl (p.bnd.po.imp fun xs φ1 h1 H1 s1 hr1 p1 Vs vs rl1 => ?_)
  have l1 := (List.getElem?_eq_some_iff.mp hi).1
  have l2 := (List.getElem?_eq_some_iff.mp hj).1
  have l3 := (List.getElem?_eq_some_iff.mp hk).1
  obtain ⟨l, d⟩ := par_ok fl [i, j, k] xs Vs rl1 vs (fun m hm => by
    rw [hsz]
    rcases List.mem_cons.mp hm with rfl | hm
    · exact ⟨l1, loc_nf hi (.inl hx)⟩
    · rcases List.mem_cons.mp hm with rfl | hm
      · exact ⟨l2, loc_nf hj (.inl hy)⟩
      · rw [List.mem_singleton.mp hm]; exact ⟨l3, loc_nf hk (.inl hz)⟩) p1
  match Vs, l with
  | [v, w, u], _ => exact ⟨v, w, u, rfl, d⟩
end
/-- two names, three names: stored from the right -/
def parB (es : List Expr) : Bool := noStarE es && (!es.all (foldedForSure 8) && !es.all (constantsAlone 8))
theorem sw2 {env : Env} {x y : Str} {px py pt pt2 : Pos} {kt k2 a b} (hb : env.blockKind = .function) (hx : env.scope.names.lookup x = some .local) (hy : env.scope.names.lookup y = some .local) (hl : py.line = px.line) (hxy : x ≠ y) (h : parB [a, b] = true) :
    swappedStores [.Tuple [.Name x px, .Name y py] kt pt] (.Tuple [a, b] k2 pt2) env = pure (some [x, y]) := by
  unfold parB noStarE at h
  simp only [Bool.and_eq_true, Bool.not_eq_true', Bool.not_eq_false'] at h
  obtain ⟨h1, h2, h3⟩ := h
  have kx : env.kindOf x = some .local := hx
  have ky : env.kindOf y = some .local := hy
  rw [List.all_cons, List.all_cons, Bool.and_eq_true, Bool.and_eq_true] at h1
  have st : ∀ e : Expr, (match e with
      | .Starred .. => false
      | _ => true) = true → (match e with
      | .Starred .. => true
      | _ => false) = false := fun e h => by cases e <;> first | rfl | cases h
  have sa := st a h1.1
  have sb := st b h1.2.1
  have e2 : [x, y].eraseDups = [x, y] := by simp [List.eraseDups_cons, hxy, Ne.symm hxy]
  unfold swappedStores
  simp only [hb, kx, ky, hl, h2, h3, List.filterMap, List.head?, Option.map, Option.getD, List.length]
  simp [Expr.pos, h2, h3, kx, ky, hl, sa, sb, e2]
  intro h
  rcases h with h | h
  · have z : false = true := sa.symm.trans h
    cases z
  · have z : false = true := sb.symm.trans h
    cases z
theorem sw3 {env : Env} {x y z : Str} {px py pz pt pt2 : Pos} {kt k2 a b c} (hb : env.blockKind = .function) (hx : env.scope.names.lookup x = some .local) (hy : env.scope.names.lookup y = some .local) (hz : env.scope.names.lookup z = some .local) (hl : py.line = px.line) (hl2 : pz.line = px.line) (hxy : x ≠ y) (hxz : x ≠ z) (hyz : y ≠ z) (h : parB [a, b, c] = true) :
    swappedStores [.Tuple [.Name x px, .Name y py, .Name z pz] kt pt] (.Tuple [a, b, c] k2 pt2) env = pure (some [x, y, z]) := by
  unfold parB noStarE at h
  simp only [Bool.and_eq_true, Bool.not_eq_true', Bool.not_eq_false'] at h
  obtain ⟨h1, h2, h3⟩ := h
  have kx : env.kindOf x = some .local := hx
  have ky : env.kindOf y = some .local := hy
  have kz : env.kindOf z = some .local := hz
  rw [List.all_cons, List.all_cons, List.all_cons, Bool.and_eq_true, Bool.and_eq_true, Bool.and_eq_true] at h1
  have st : ∀ e : Expr, (match e with
      | .Starred .. => false
      | _ => true) = true → (match e with
      | .Starred .. => true
      | _ => false) = false := fun e h => by cases e <;> first | rfl | cases h
  have sa := st a h1.1
  have sb := st b h1.2.1
  have sc := st c h1.2.2.1
  have e2 : [x, y, z].eraseDups = [x, y, z] := by simp [List.eraseDups_cons, hxy, Ne.symm hxy, hxz, hyz, Ne.symm hxz, Ne.symm hyz]
  unfold swappedStores
  simp only [hb, kx, ky, kz, hl, hl2, h2, h3, List.filterMap, List.head?, Option.map, Option.getD, List.length]
  simp [Expr.pos, h2, h3, kx, ky, kz, hl, hl2, sa, sb, sc, e2]
  intro h
  rcases h with h | h | h
  · have z : false = true := sa.symm.trans h
    cases z
  · have z : false = true := sb.symm.trans h
    cases z
  · have z : false = true := sc.symm.trans h
    cases z
end EV
set_option linter.all false
set_option maxRecDepth 100000
set_option maxHeartbeats 1000000
/-! Ev15: the IR against the text: what is checked. -/
namespace EV
open PySem PySem.Spec PyProof.Rows L2

/-- a block's names -/
structure Sc where
  sc : Scope
  N : List Str
  top : Bool
  flag : Bool
/-- the module's names; the calls by names that are known: the def, how many by place, the names, the order; what is lambda k -/
structure Nms where
  fns : List Str
  glb : List Str
  cls : List Str
  kws : List (Nat × Nat × List Str × List Nat)
  lamB : Nat → Sc → Arguments → Expr → Scope → Bool
def kwV : Keyword → Expr
  | ⟨_, v, _⟩ => v
structure Rp where
  e : Sc → Expr → Bool
  t : Sc → Expr → Bool
  w : Sc → Expr → Bool
  a : Sc → List Expr → Bool
  o : Sc → Option Expr → Bool
  s : Sc → Stmt → Bool
  ss : Sc → List Stmt → Bool
  g : Sc → Expr → Bool
  gs : Sc → List Expr → Bool
  i : Sc → Expr → Bool
  ts : Sc → List Expr → Bool
def Rp.no : Rp := ⟨fun _ _ => false, fun _ _ => false, fun _ _ => false, fun _ _ => false, fun _ _ => false, fun _ _ => false, fun _ _ => false, fun _ _ => false, fun _ _ => false, fun _ _ => false, fun _ _ => false⟩
def Rp.ofE (r : Sc → Expr → Bool) : Rp := { Rp.no with
  e := r
  t := fun I x => plainT x && r I x
  i := fun I x => notSet x && r I x
  o := fun I x => match x with
    | some x => r I x
    | none => false
  ts := fun I x => match x with
    | [c] => plainT c && r I c
    | _ => false }
where notSet : Expr → Bool
  | .Set .. => false
  | _ => true
def Rp.ofT (r t w : Sc → Expr → Bool) : Rp := { Rp.ofE r with t := t, w := w, ts := fun I x => match x with
    | [c] => t I c
    | _ => false }
def Rp.ofS (r : Sc → Stmt → Bool) : Rp := { Rp.no with s := r }
def isSl : Expr → Bool
  | .Slice .. => true
  | _ => false
def isComp : Expr → Bool
  | .ListComp .. => true
  | .SetComp .. => true
  | .DictComp .. => true
  | _ => false
def isTupE : Expr → Bool
  | .Tuple .. => true
  | _ => false
def isTupL : Expr → Bool
  | .Tuple .. => true
  | .List .. => true
  | _ => false
/-- its attribute is asked of it plainly -/
def plainBase : Expr → Bool
  | .Call _ [] [] _ => false
  | _ => true
def isCall : Expr → Str → Bool
  | .Call (.Name x _) _ _ _, y => decide (x = y)
  | _, _ => false
def relSc (scope sc : Scope) : Scope := relS scope sc
/-- a comprehension's names are what they must be -/
def blkB (N : List Str) (sc scope : Scope) (own : List Nat) : Bool :=
  decide (scope.kind = .function) && (scope.names.all fun y => decide (scope.names.lookup y.1 = some y.2)) &&
  (scope.names.all fun y => decide (y.2 ≠ .free) || decide (sc.names.lookup y.1 = some .cell) || decide (sc.names.lookup y.1 = some .free)) &&
  (scope.names.all fun y => (decide (y.2 ≠ .local) && decide (y.2 ≠ .cell)) || (own.any fun i => decide (N[i]? = some y.1)) || !N.contains y.1) &&
  (own.all fun i => (N[i]?).isSome)
/-- a tuple of constants -/
def cstTup : Expr → Bool
  | .Tuple es _ _ => es.all (foldedForSure 8)
  | _ => false
def constB : Const → PV → Bool
  | .none, .non => true
  | .bool a, .bl b => a == b
  | .int a, .int b => decide (a = b)
  | .str a, .str b => decide (a = b)
  | _, _ => false
def noStar (es : List Expr) : Bool := es.all fun e => !isStar e
def Blt (b : BI) : Bool := match b with
  | .lrng => false
  | .bitl => false
  | _ => true
def rep (M : Nms) : T → Rp
  | .var i => .ofE fun I x => match x with
    | .Name x _ => decide (I.N[i]? = some x) && (visB I.sc x && okName x)
    | _ => false
  | .cst c => .ofE fun I x => match x with
    | .Constant k _ _ => constB k c
    | _ => false
  | .glb g => .ofE fun I x => match x with
    | .Name x _ => decide (M.glb[g]? = some x) && (glB I.sc x && okName x)
    | _ => false
  | .tup es => .ofE fun I x => match x with
    | .Tuple xs _ _ => (rep M es).a I xs
    | _ => false
  | .lst es => .ofE fun I x => match x with
    | .List xs _ => (rep M es).a I xs
    | _ => false
  | .dct0 => .ofE fun I x => match x with
    | .Dict [] [] _ => true
    | _ => false
  | .bin op a b => .ofE fun I x => match x with
    | .BinOp y o z _ => decide (o = op) && ((rep M a).e I y && (rep M b).e I z)
    | _ => false
  | .neg a => .ofE fun I x => match x with
    | .UnaryOp .USub y _ => (rep M a).e I y
    | _ => false
  | .nt a => .ofT (fun I x => match x with
      | .UnaryOp .Not y _ => (rep M a).e I y
      | _ => false) (fun I x => match x with
      | .UnaryOp .Not y _ => (rep M a).t I y
      | _ => false) (fun _ _ => false)
  | .an a b => .ofT (fun I x => match x with
      | .BoolOp .And [y, z] _ => (rep M a).e I y && (rep M b).e I z
      | .BoolOp .And (y :: z :: u :: r) p => (rep M a).e I y && (rep M b).e I (.BoolOp .And (z :: u :: r) p)
      | _ => false)
    (fun I x => match x with
      | .BoolOp .And [y, z] _ => (rep M a).t I y && (rep M b).t I z
      | .BoolOp .And (y :: z :: u :: r) p => (rep M a).t I y && (rep M b).w I (.BoolOp .And (z :: u :: r) p)
      | _ => false)
    (fun I x => match x with
      | .BoolOp .And [y, z] _ => (rep M a).t I y && (rep M b).t I z
      | .BoolOp .And (y :: z :: u :: r) p => (rep M a).t I y && (rep M b).w I (.BoolOp .And (z :: u :: r) p)
      | _ => false)
  | .oo a b => .ofT (fun I x => match x with
      | .BoolOp .Or [y, z] _ => (rep M a).e I y && (rep M b).e I z
      | .BoolOp .Or (y :: z :: u :: r) p => (rep M a).e I y && (rep M b).e I (.BoolOp .Or (z :: u :: r) p)
      | _ => false)
    (fun I x => match x with
      | .BoolOp .Or [y, z] _ => (rep M a).t I y && (rep M b).t I z
      | .BoolOp .Or (y :: z :: u :: r) p => (rep M a).t I y && (rep M b).w I (.BoolOp .Or (z :: u :: r) p)
      | _ => false)
    (fun I x => match x with
      | .BoolOp .Or [y, z] _ => (rep M a).t I y && (rep M b).t I z
      | .BoolOp .Or (y :: z :: u :: r) p => (rep M a).t I y && (rep M b).w I (.BoolOp .Or (z :: u :: r) p)
      | _ => false)
  | .cmp op a b => .ofT (fun I x => match x with
      | .Compare y [o] [z] _ => decide (o = op) && (!behindInMarks op z && ((rep M a).e I y && (rep M b).e I z))
      | _ => false)
    (fun I x => match x with
      | .Compare y [o] [z] _ => decide (o = op) && (!behindInMarks op z && ((rep M a).e I y && (rep M b).e I z))
      | _ => false) (fun _ _ => false)
  | .chn op op' a b c => .ofE fun I x => match x with
    | .Compare y [o, o'] [z, u] _ => decide (o = op) && (decide (o' = op') && (!lastMarks [op, op'] [z, u] && ((rep M a).e I y && ((rep M b).e I z && (rep M c).e I u))))
    | _ => false
  | .ife c a b => .ofE fun I x => match x with
    | .IfExp y z u _ => (rep M c).t I y && ((rep M a).e I z && (rep M b).e I u)
    | _ => false
  | .idx a i => .ofE fun I x => match x with
    | .Subscript y z _ => !isSl z && ((rep M a).e I y && (rep M i).e I z)
    | _ => false
  | .slc a lo hi => .ofE fun I x => match x with
    | .Subscript y (.Slice l u .none _) _ => (rep M a).e I y && ((rep M lo).o I l && (rep M hi).o I u)
    | _ => false
  | .rvs _ => .no
  | .none => { Rp.no with o := fun _ x => match x with
    | .none => true
    | _ => false }
  | .call f args => .ofE fun I x => match x with
    | .Call (.Name x _) es [] _ => decide (M.fns[f]? = some x) && (glB I.sc x && (okName x && (noStar es && (!es.isEmpty && (rep M args).a I es))))
    | _ => false
  | .callk f args kws perm => .ofE fun I x => match x with
    | .Call (.Name x _) es kw _ => match kwNames kw with
      | some ks => M.kws.contains (f, es.length, ks, perm) && (decide (M.fns[f]? = some x) && (glB I.sc x && (okName x && (noStar es && (decide (es.length = args.len) && (decide (kw.length = kws.len) && ((rep M args).a I es && (rep M kws).a I (kw.map kwV))))))))
      | none => false
    | _ => false
  | .blt b args => .ofE fun I x => match x with
    | .Call (.Name x _) (e :: es) [] _ => Blt b && (decide (b.str = x) && (glB I.sc x && (noStar (e :: es) && (rep M args).a I (e :: es))))
    | _ => false
  | .bit a => .ofE fun I x => match x with
    | .Call (.Attribute o m p) [] [] q => decide (m = ("bit_length" : Str)) && ((p.endLine == q.line) && (plainBase o && (rep M a).e I o))
    | _ => false
  | .lrg a => .ofE fun I x => match x with
    | .Call (.Name x _) [.Call (.Name y _) [z] [] _] [] _ => decide (x = ("list" : Str)) && (decide (y = ("range" : Str)) && (glB I.sc x && (glB I.sc y && (!isStar z && (rep M a).e I z))))
    | _ => false
  | .isi ty a => .ofE fun I x => match x with
    | .Call (.Name x _) [e, .Name y _] [] _ => decide (x = ("isinstance" : Str)) && (decide (y = ty.sname) && (glB I.sc x && (glB I.sc y && (!isStar e && (rep M a).e I e))))
    | _ => false
  | .isx c a => .ofE fun I x => match x with
    | .Call (.Name x _) [e, .Name y _] [] _ => decide (x = ("isinstance" : Str)) && (decide (M.cls[c]? = some y) && (glB I.sc x && (glB I.sc y && (okName y && (!isStar e && (rep M a).e I e)))))
    | _ => false
  | .clov i args => .ofE fun I x => match x with
    | .Call (.Name x _) es [] _ => !I.flag && (decide (I.N[i]? = some x) && (visB I.sc x && (okName x && (noStar es && (rep M args).a I es))))
    | _ => false
  | .exn c a => .ofE fun I x => match x with
    | .Call (.Name y _) [e] [] _ => decide (M.cls[c]? = some y) && (glB I.sc y && (okName y && (!isStar e && (rep M a).e I e)))
    | _ => false
  | .attr a => .ofE fun I x => match x with
    | .Attribute e f _ => decide (f = ("value" : Str)) && (plainBase e && (rep M a).e I e)
    | _ => false
  | .lc own tg it tst el => .ofE fun I x => match x with
    | .ListComp elt [⟨t', iter, ifs, 0⟩] scope _ => blkB I.N I.sc scope own && (tg.wr.all (fun i => own.contains i) && (Rp.ofE.notSet iter && ((rep M it).i I iter &&
      ((rep M tg).g ⟨relSc scope I.sc, I.N, false, false⟩ t' && ((rep M tst).ts ⟨relSc scope I.sc, I.N, false, false⟩ ifs && (rep M el).e ⟨relSc scope I.sc, I.N, false, false⟩ elt)))))
    | _ => false
  | .lam k => .ofE fun I x => match x with
    | .Lambda ps b sc _ => I.flag && M.lamB k I ps b sc
    | _ => false
  | .nil => { Rp.no with
      a := fun _ x => match x with
        | [] => true
        | _ => false
      ss := fun _ x => match x with
        | [] => true
        | _ => false
      gs := fun _ x => match x with
        | [] => true
        | _ => false
      ts := fun _ x => match x with
        | [] => true
        | _ => false }
  | .cons e r => { Rp.no with
      a := fun I x => match x with
        | y :: z => !isStar y && ((rep M e).e I y && (rep M r).a I z)
        | [] => false
      ss := fun I x => match e with
        | .kil _ => (rep M r).ss I x
        | _ => match x with
          | y :: z => (rep M e).s I y && (rep M r).ss I z
          | [] => false
      gs := fun I x => match x with
        | y :: z => !isStar y && ((rep M e).g I y && (rep M r).gs I z)
        | [] => false }
  | .star _ _ => .no
  | .asg tg e => .ofS fun I x => match x with
    | .Assign [t'] v _ => !isStar t' && (!isComp v && ((!isTupE v || !isTupL t' || cstTup v) && ((rep M e).e I v && (rep M tg).g I t')))
    | _ => false
  | .par is a => .ofS fun I x => match is, x with
    | [i, j], .Assign [.Tuple [.Name x px, .Name y py] _ _] (.Tuple [u, v] _ _) _ => I.top && (decide (i ≠ j) && (decide (x ≠ y) && (decide (I.N[i]? = some x) && (decide (I.N[j]? = some y) && (decide (I.sc.names.lookup x = some .local) && (decide (I.sc.names.lookup y = some .local) &&
      (decide (py.line = px.line) && (parB [u, v] && (rep M a).a I [u, v]))))))))
    | [i, j, k], .Assign [.Tuple [.Name x px, .Name y py, .Name z pz] _ _] (.Tuple [u, v, w] _ _) _ => I.top && (decide (i ≠ j) && (decide (i ≠ k) && (decide (j ≠ k) && (decide (x ≠ y) && (decide (x ≠ z) && (decide (y ≠ z) && (decide (I.N[i]? = some x) && (decide (I.N[j]? = some y) && (decide (I.N[k]? = some z) &&
      (decide (I.sc.names.lookup x = some .local) && (decide (I.sc.names.lookup y = some .local) && (decide (I.sc.names.lookup z = some .local) &&
      (decide (py.line = px.line) && (decide (pz.line = px.line) && (parB [u, v, w] && (rep M a).a I [u, v, w])))))))))))))))
    | _, _ => false
  | .aug i op e => .ofS fun I x => match x with
    | .AugAssign (.Name x _) op' y _ => decide (op = op') && (decide (I.N[i]? = some x) && ((decide (I.sc.names.lookup x = some .local) || (I.top && decide (I.sc.names.lookup x = some .cell))) && (rep M e).e I y))
    | _ => false
  | .iff c a b => .ofS fun I x => match x with
    | .If y z u _ => (rep M c).t I y && ((rep M a).ss I z && (rep M b).ss I u)
    | _ => false
  | .whl c b => .ofS fun I x => match x with
    | .While y z [] _ => (rep M c).t I y && (rep M b).ss I z
    | _ => false
  | .fo tg it b => .ofS fun I x => match x with
    | .For t' y z [] _ => Rp.ofE.notSet y && ((rep M tg).g I t' && ((rep M it).i I y && (rep M b).ss I z))
    | _ => false
  | .ret e => .ofS fun I x => match x with
    | .Return (some y) _ => (rep M e).e I y
    | _ => false
  | .retn => .ofS fun I x => match x with
    | .Return .none _ => true
    | _ => false
  | .xpr e => .ofS fun I x => match x with
    | .Expr y _ => !isComp y && (rep M e).e I y
    | _ => false
  | .app l e => .ofS fun I x => match x with
    | .Expr (.Call (.Attribute o m p) [y] [] q) _ => decide (m = ("append" : Str)) && ((p.endLine == q.line) && (plainBase o && (!isStar y && ((rep M l).e I o && (rep M e).e I y))))
    | _ => false
  | .ext l e => .ofS fun I x => match x with
    | .Expr (.Call (.Attribute o m p) [y] [] q) _ => decide (m = ("extend" : Str)) && ((p.endLine == q.line) && (plainBase o && (!isStar y && ((rep M l).e I o && (rep M e).e I y))))
    | _ => false
  | .rse c e => .ofS fun I x => match x with
    | .Raise (some (.Call (.Name y _) [x] [] _)) none _ => I.top && (!I.flag && (decide (M.cls[c]? = some y) && (glB I.sc y && (okName y && (!isStar x && (rep M e).e I x)))))
    | _ => false
  | .brk => .ofS fun I x => match x with
    | .Break _ => true
    | _ => false
  | .cnt => .ofS fun I x => match x with
    | .Continue _ => true
    | _ => false
  | .pas => .ofS fun I x => match x with
    | .Pass _ => true
    | _ => false
  | .doc => .no
  | .try1 i j k c (.clov q .nil) => .ofS fun I x => match x with
    | .Try [.Assign [.Name xn _] (.Call (.Name an _) [] [] _) _] [.ExceptHandler (some (.Name cn _)) (some en) [.Assign [.Name yn _] (.Name en' _) _] _] [] [] _ => I.top && (!I.flag && (decide (en' = en) && (decide (j ≠ k) && (decide (I.N[i]? = some xn) && (decide (I.N[j]? = some yn) && (decide (I.N[k]? = some en) && (decide (I.N[q]? = some an) &&
      (decide (I.sc.names.lookup xn = some .local) && (decide (I.sc.names.lookup yn = some .local) && (decide (I.sc.names.lookup en = some .local) && (visB I.sc an && (okName an && (okName en && (decide (M.cls[c]? = some cn) && (glB I.sc cn && okName cn)))))))))))))))
    | _ => false
  | .try1 _ _ _ _ _ => .no
  | .alc i own tg it tst el => .ofS fun I x => match x with
    | .Assign [.Name y py] (.ListComp elt [⟨t', iter, ifs, 0⟩] scope p) _ => I.top && (decide (I.N[i]? = some y) && (decide (I.sc.names.lookup y = some .local) && (decide (py.line = p.line) && (!(scope.names.any fun (n, k) => n == y && (k == .local || k == .cell)) &&
      (blkB I.N I.sc scope own && (tg.wr.all (fun i => own.contains i) && (Rp.ofE.notSet iter && ((rep M it).i I iter &&
      ((rep M tg).g ⟨relSc scope I.sc, I.N, false, false⟩ t' && ((rep M tst).ts ⟨relSc scope I.sc, I.N, false, false⟩ ifs && (rep M el).e ⟨relSc scope I.sc, I.N, false, false⟩ elt))))))))))
    | _ => false
  | .kil _ => .no
  | .rpx a => .ofE fun I x => match x with
    | .Call (.Name x _) [e] [] _ => decide (x = ("repr" : Str)) && (glB I.sc x && (!isStar e && (rep M a).e I e))
    | _ => false
  | .tn i => { Rp.no with g := fun I x => match x with
    | .Name x _ => decide (I.N[i]? = some x) && (decide (I.sc.names.lookup x = some .local) || (I.top && decide (I.sc.names.lookup x = some .cell)))
    | _ => false }
  | .tt ts => { Rp.no with g := fun I x => match x with
    | .Tuple es _ _ => decide (es.length = ts.len) && (noStar es && (rep M ts).gs I es)
    | _ => false }
  | .tsub o i => { Rp.no with g := fun I x => match x with
    | .Subscript y z _ => !isSl z && ((rep M o).e I y && (rep M i).e I z)
    | _ => false }
  | .rng1 a => { Rp.no with i := fun I x => match x with
    | .Call (.Name x _) [y] [] _ => decide (x = ("range" : Str)) && (glB I.sc x && (!isStar y && (rep M a).e I y))
    | _ => false }
  | .rng2 a b => { Rp.no with i := fun I x => match x with
    | .Call (.Name x _) [y, z] [] _ => decide (x = ("range" : Str)) && (glB I.sc x && (!isStar y && (!isStar z && ((rep M a).e I y && (rep M b).e I z))))
    | _ => false }
end EV
set_option linter.all false
set_option maxRecDepth 100000
set_option maxHeartbeats 4000000
/-! Ev16: what the evaluator computes, the text does. -/
namespace EV
open PySem PySem.Spec PyProof.Rows L2
def bltNames : List Str := ["len", "int", "abs", "sum", "all", "any", "max", "min", "repr", "list", "tuple", "range", "isinstance", "bool", "str", "ValueError"]
structure Sy (M : Nms) (I : Sc) (C : Ct) (F : Cfg) : Prop where
  K : C.X.K = C.Γ.K
  N : C.X.N = I.N
  nd : I.N.Nodup
  sc : C.X.env.scope = I.sc
  calm : C.X.calm = true
  un : C.X.A.units + 90 < cLine
  gd : C.X.A.guards = some []
  fn : I.top = true → ∀ x, C.X.fn x = true
  fb : I.top = true → C.X.env.blockKind = .function
  off : I.flag = false → C.flag = false
  fl : C.flag = true → F.flag = true ∧ F.capd = C.capd
  po : PassesOwn (model C.X.prog C.X.w) C.X.A C.X.env C.X.xe
  px : Passes (CX C.X.prog C.X.w) C.X C.Ex
  glb : ∀ (i : Nat) x v, M.glb[i]? = some x → F.glob[i]? = some v → ∃ V u, C.X.mg x = some u ∧ RelV V u ∧ ∀ φ H W, VR C.Γ φ H W v V
  bl : ∀ x, x ∈ bltNames → C.X.mg x = none
  fns : ∀ (f : Nat) x, M.fns[f]? = some x → ∃ fa, FnC C fa (F.call f) x
  cls : ∀ (c : Nat) x, M.cls[c]? = some x → C.X.mg x = some (.ref (C.Γ.clsA c))
  exf : ∃ D fI cc k, InitF C.X.prog C.X.K C.X.mg D fI cc ∧ Room (k + 1) C.X.A ∧ PySem.W.typeIn C.X.K (.ref fI) = some (.type "function") ∧ ∀ c, ClsF C.X.K D (C.Γ.clsA c) ∧ PySem.W.findIn C.X.K (.ref (C.Γ.clsA c)) "__init__" = some (some (.ref fI))
  exi : ∀ c, ExcC C.X.K (C.Γ.clsA c) ∧ PySem.W.kitOne C.X.K (.ref (C.Γ.clsA c)) (.type "ValueError") = some true
  exs : ∀ c d, PySem.W.kitOne C.X.K (.ref (C.Γ.clsA c)) (.ref (C.Γ.clsA d)) = some (F.sub c d)
  exn : ∀ d, PySem.W.kitOne C.X.K (.type "NoneType") (.ref (C.Γ.clsA d)) = some false
  exr : ∀ c, ClsR C.X.K (C.Γ.clsA c) (F.cnm c)
  tk : I.top = true → Takes C.X fun cls d _ H => C.Ex cls d H
  stk : I.top = true → C.X.stack = C.X.env :: C.X.outer ∧ C.X.env.frame = some C.X.env.locals ∧ C.X.ex = []
  fx : C.flag = true → FlX C.X
  clo : ∀ k, LmK C k (F.clo k)
  lam : I.flag = true → ∀ k ps b sc, M.lamB k I ps b sc = true → ∃ L l, L.params = ps ∧ L.body = b ∧ L.scope = sc ∧ C.Γ.lam k L ∧ F.caps[k]? = some l ∧ C.flag = true ∧ LamM C L l
  kws : ∀ (f : Nat) n ks perm x, (f, n, ks, perm) ∈ M.kws → M.fns[f]? = some x → ∃ fa, FnK C fa (F.call f) x n ks perm
  exm : ∀ c d, PySem.W.exmOne C.X.K (.ref (C.Γ.clsA c)) (.ref (C.Γ.clsA d)) = some (F.sub c d)
theorem gl_of {M I C F} (S : Sy M I C F) {x : Str} (h : glB I.sc x = true) : Gl C.X x := by
  show C.X.env.scope.names.lookup x = _
  rw [S.sc]
  unfold glB at h
  split at h
  · assumption
  · cases h
theorem vis_of' {M I C F} (S : Sy M I C F) {x : Str} (h : visB I.sc x = true) : Vis C.X.env.scope x := by rw [S.sc]; exact vis_of h
theorem okN {x : Str} (h : okName x = true) : (x == ("__debug__" : Str)) = false ∧ (x == ("__classdict__" : Str)) = false := by
  unfold okName at h
  simpa using h
structure Sd (M : Nms) (u : T) : Prop where
  e : ∀ I C F, Sy M I C F → ∀ x, (rep M u).e I x = true → PE C.X x (tE C (ev F u).e)
  t : ∀ I C F, Sy M I C F → ∀ x, (rep M u).t I x = true → PT C.X x (tT C (ev F u).t)
  w : ∀ I C F, Sy M I C F → ∀ x, (rep M u).w I x = true → PW C.X x (tT C (ev F u).t)
  a : ∀ I C F, Sy M I C F → ∀ x, (rep M u).a I x = true → PA C.X x (tA C (ev F u).a)
  o : ∀ I C F, Sy M I C F → ∀ x, (rep M u).o I x = true → PO C.X x (tO C (ev F u).o)
  s : ∀ I C F, Sy M I C F → ∀ x, (rep M u).s I x = true → PS C.X x (tS C (ev F u).s)
  ss : ∀ I C F, Sy M I C F → ∀ x, (rep M u).ss I x = true → PSs C.X x (tS C (ev F u).s)
  g : ∀ I C F, Sy M I C F → ∀ x, (rep M u).g I x = true → PG C.X x (tG C u.wr (ev F u).g)
  gs : ∀ I C F, Sy M I C F → ∀ x, (rep M u).gs I x = true → PGs C.X x (tGs C u.wr (ev F u).gs)
  i : ∀ I C F, Sy M I C F → ∀ tg x, (rep M u).i I x = true → PI C.X tg x (tI C (ev F u).i)
  ts : ∀ I C F, Sy M I C F → ∀ x, (rep M u).ts I x = true → PTs C.X x (tT C (ev F u).t)
  k : ∀ I C F, Sy M I C F → ∀ x : List Keyword, (rep M u).a I (x.map kwV) = true → PK C.X x (tA C (ev F u).a)
section
variable {M : Nms} {t : T}
theorem sd_no (h1 : rep M t = Rp.no) : Sd M t := by
  constructor <;> (intros; rename_i h; rw [h1] at h; cases h)
theorem sd_ofE {r : Sc → Expr → Bool} {f : Cfg → En → Hh → Rz PV} (h1 : rep M t = Rp.ofE r) (h2 : ∀ F, ev F t = Ev.ofE (f F)) (h : ∀ I C F, Sy M I C F → ∀ x, r I x = true → PE C.X x (tE C (f F))) : Sd M t where
  e := fun I C F S x hx => by rw [h1] at hx; rw [h2]; exact h I C F S x hx
  t := fun I C F S x hx => by
    rw [h1] at hx; rw [h2]
    have hx : (plainT x && r I x) = true := hx
    rw [Bool.and_eq_true] at hx
    exact st_plain S.K hx.1 (h I C F S x hx.2)
  w := fun I C F S x hx => by rw [h1] at hx; cases hx
  a := fun I C F S x hx => by rw [h1] at hx; cases hx
  o := fun I C F S x hx => by
    rw [h1] at hx; rw [h2]
    cases x with
    | none => cases hx
    | some x => exact so_some (h I C F S x hx)
  s := fun I C F S x hx => by rw [h1] at hx; cases hx
  ss := fun I C F S x hx => by rw [h1] at hx; cases hx
  g := fun I C F S x hx => by rw [h1] at hx; cases hx
  gs := fun I C F S x hx => by rw [h1] at hx; cases hx
  i := fun I C F S tg x hx => by
    rw [h1] at hx; rw [h2]
    have hx : (Rp.ofE.notSet x && r I x) = true := hx
    rw [Bool.and_eq_true] at hx
    exact si_val S.K (h I C F S x hx.2)
  ts := fun I C F S x hx => by
    rw [h1] at hx; rw [h2]
    match x, hx with
    | [c], hx =>
      have hx : (plainT c && r I c) = true := hx
      rw [Bool.and_eq_true] at hx
      exact (pts_one (st_plain S.K hx.1 (h I C F S c hx.2)))
  k := fun I C F S x hx => by rw [h1] at hx; cases hx
theorem sd_ofT {r rt rw : Sc → Expr → Bool} {f : Cfg → En → Hh → Rz PV} {g : Cfg → En → Hh → Rz Bool} (h1 : rep M t = Rp.ofT r rt rw) (h2 : ∀ F, ev F t = Ev.ofT (f F) (g F)) (h : ∀ I C F, Sy M I C F → ∀ x, r I x = true → PE C.X x (tE C (f F)))
    (ht : ∀ I C F, Sy M I C F → ∀ x, rt I x = true → PT C.X x (tT C (g F))) (hw : ∀ I C F, Sy M I C F → ∀ x, rw I x = true → PW C.X x (tT C (g F))) : Sd M t where
  e := fun I C F S x hx => by rw [h1] at hx; rw [h2]; exact h I C F S x hx
  t := fun I C F S x hx => by rw [h1] at hx; rw [h2]; exact ht I C F S x hx
  w := fun I C F S x hx => by rw [h1] at hx; rw [h2]; exact hw I C F S x hx
  a := fun I C F S x hx => by rw [h1] at hx; cases hx
  o := fun I C F S x hx => by
    rw [h1] at hx; rw [h2]
    cases x with
    | none => cases hx
    | some x => exact so_some (h I C F S x hx)
  s := fun I C F S x hx => by rw [h1] at hx; cases hx
  ss := fun I C F S x hx => by rw [h1] at hx; cases hx
  g := fun I C F S x hx => by rw [h1] at hx; cases hx
  gs := fun I C F S x hx => by rw [h1] at hx; cases hx
  i := fun I C F S tg x hx => by
    rw [h1] at hx; rw [h2]
    have hx : (Rp.ofE.notSet x && r I x) = true := hx
    rw [Bool.and_eq_true] at hx
    exact si_val S.K (h I C F S x hx.2)
  ts := fun I C F S x hx => by
    rw [h1] at hx; rw [h2]
    match x, hx with
    | [c], hx => exact (pts_one (ht I C F S c hx))
  k := fun I C F S x hx => by rw [h1] at hx; cases hx
theorem sd_ofS {r : Sc → Stmt → Bool} {f : Cfg → En → Hh → Rz Fl} (h1 : rep M t = Rp.ofS r) (h2 : ∀ F, ev F t = Ev.ofS (f F)) (h : ∀ I C F, Sy M I C F → ∀ x, r I x = true → PS C.X x (tS C (f F))) : Sd M t where
  e := fun I C F S x hx => by rw [h1] at hx; cases hx
  t := fun I C F S x hx => by rw [h1] at hx; cases hx
  w := fun I C F S x hx => by rw [h1] at hx; cases hx
  a := fun I C F S x hx => by rw [h1] at hx; cases hx
  o := fun I C F S x hx => by rw [h1] at hx; cases hx
  s := fun I C F S x hx => by rw [h1] at hx; rw [h2]; exact h I C F S x hx
  ss := fun I C F S x hx => by rw [h1] at hx; cases hx
  g := fun I C F S x hx => by rw [h1] at hx; cases hx
  gs := fun I C F S x hx => by rw [h1] at hx; cases hx
  i := fun I C F S tg x hx => by rw [h1] at hx; cases hx
  ts := fun I C F S x hx => by rw [h1] at hx; cases hx
  k := fun I C F S x hx => by rw [h1] at hx; cases hx
end

section
variable {M : Nms}
theorem sd_var (i : Nat) : Sd M (.var i) := sd_ofE (f := fun _ ρ h => match slot ρ i with
    | some v => .ok v h
    | none => .err) rfl (fun _ => rfl) fun I C F S x hx => by
  split at hx
  · simp only [Bool.and_eq_true, Bool.or_eq_true, decide_eq_true_eq, Bool.not_eq_true'] at hx
    obtain ⟨h1, h2, h3⟩ := hx
    exact se_var (by rw [S.N]; exact h1) (vis_of' S h2) (okN h3).1 (okN h3).2
  · cases hx
theorem sd_cst (c : PV) : Sd M (.cst c) := sd_ofE (f := fun _ _ h => .ok c h) rfl (fun _ => rfl) fun I C F S x hx => by
  split at hx
  · unfold constB at hx
    split at hx
    · exact se_non
    · obtain rfl := eq_of_beq hx; exact se_bl
    · obtain rfl := of_decide_eq_true hx; exact se_int
    · obtain rfl := of_decide_eq_true hx; exact se_str
    · cases hx
  · cases hx
theorem sd_glb (g : Nat) : Sd M (.glb g) := sd_ofE (f := fun F _ h => match F.glob[g]? with
    | some v => .ok v h
    | none => .err) rfl (fun _ => rfl) fun I C F S x hx => by
  split at hx
  · simp only [Bool.and_eq_true, Bool.or_eq_true, decide_eq_true_eq, Bool.not_eq_true'] at hx
    obtain ⟨h1, h2, h3⟩ := hx
    cases e : F.glob[g]? with
    | none =>
      refine ⟨fun pins s σ H Q I ⟨φ, ρ, h, rl, po⟩ => ?_⟩
      exact po.elim
    | some v =>
      obtain ⟨V, u, e1, e2, e3⟩ := S.glb g _ v h1 e
      exact (pe_glob (gl_of S h2) e1 e2 (okN h3).1).imp fun σ H Q ⟨φ, ρ, h, rl, po⟩ => po.val rl.hr (e3 _ _ _)
  · cases hx
theorem sd_tup {es : T} (ih : Sd M es) : Sd M (.tup es) := sd_ofE (f := fun F ρ h => ((ev F es).a ρ h).bnd fun vs h => if vs.length ≤ sizeLine then .ok (.tup vs) h else .err) rfl (fun _ => rfl) fun I C F S x hx => by
  split at hx
  · exact se_tup (ih.a I C F S _ hx)
  · cases hx
theorem sd_lst {es : T} (ih : Sd M es) : Sd M (.lst es) := sd_ofE (f := fun F ρ h => ((ev F es).a ρ h).bnd fun vs h => if vs.length ≤ sizeLine then newL vs h else .err) rfl (fun _ => rfl) fun I C F S x hx => by
  split at hx
  · exact se_lst (ih.a I C F S _ hx)
  · cases hx
theorem sd_dct0 : Sd M .dct0 := sd_ofE (f := fun _ _ h => .ok (.ref h.length) (h ++ [.dct0])) rfl (fun _ => rfl) fun I C F S x hx => by
  split at hx
  · exact se_dct0
  · cases hx
theorem sd_bin {op : Operator} {a b : T} (ia : Sd M a) (ib : Sd M b) : Sd M (.bin op a b) := sd_ofE (f := fun F ρ h => ((ev F a).e ρ h).bnd fun x h => ((ev F b).e ρ h).bnd fun y h => binV op x y h) rfl (fun _ => rfl) fun I C F S x hx => by
  split at hx
  · simp only [Bool.and_eq_true, Bool.or_eq_true, decide_eq_true_eq, Bool.not_eq_true'] at hx
    obtain ⟨rfl, h1, h2⟩ := hx
    exact se_bin S.K (ia.e I C F S _ h1) (ib.e I C F S _ h2)
  · cases hx
theorem sd_neg {a : T} (ia : Sd M a) : Sd M (.neg a) := sd_ofE (f := fun F ρ h => ((ev F a).e ρ h).bnd fun x h => match x with
    | .int i => .ok (.int (-i)) h
    | _ => .err) rfl (fun _ => rfl) fun I C F S x hx => by
  split at hx
  · exact se_neg (ia.e I C F S _ hx)
  · cases hx
theorem sd_nt {a : T} (ia : Sd M a) : Sd M (.nt a) := sd_ofT (f := fun F ρ h => ((ev F a).e ρ h).bnd fun x h => match x with
      | .bl b => .ok (.bl (!b)) h
      | _ => .err) (g := fun F ρ h => ((ev F a).t ρ h).bnd fun b h => .ok (!b) h) rfl (fun _ => rfl) (fun I C F S x hx => by
  split at hx
  · exact se_not (ia.e I C F S _ hx)
  · cases hx) (fun I C F S x hx => by
  split at hx
  · exact st_not (ia.t I C F S _ hx)
  · cases hx) (fun I C F S x hx => by cases hx)
theorem one_and {C : Ct} {b : Expr} {p : Pos} {f} (h : PE C.X b (tE C f)) : PE C.X (.BoolOp .And [b] p) (tE C f) := pe_one h
theorem sd_an {a b : T} (ia : Sd M a) (ib : Sd M b) : Sd M (.an a b) := by
  have W : ∀ I C F, Sy M I C F → ∀ x, (match x with
      | .BoolOp .And [y, z] _ => (rep M a).t I y && (rep M b).t I z
      | .BoolOp .And (y :: z :: u :: r) p => (rep M a).t I y && (rep M b).w I (.BoolOp .And (z :: u :: r) p)
      | _ => false) = true → PW C.X x (tT C fun ρ h => ((ev F a).t ρ h).bnd fun x h => if x = true then (ev F b).t ρ h else .ok false h) := fun I C F S x hx => by
    split at hx
    · simp only [Bool.and_eq_true, Bool.or_eq_true, decide_eq_true_eq, Bool.not_eq_true'] at hx
      exact sw_and (ia.t I C F S _ hx.1) (pw_and1 (ib.t I C F S _ hx.2))
    · simp only [Bool.and_eq_true, Bool.or_eq_true, decide_eq_true_eq, Bool.not_eq_true'] at hx
      exact sw_and (ia.t I C F S _ hx.1) (ib.w I C F S _ hx.2)
    · cases hx
  refine sd_ofT (f := fun F ρ h => ((ev F a).e ρ h).bnd fun x h => match x with
      | .bl true => (ev F b).e ρ h
      | .bl false => .ok (.bl false) h
      | _ => .err) (g := fun F ρ h => ((ev F a).t ρ h).bnd fun x h => if x = true then (ev F b).t ρ h else .ok false h) rfl (fun _ => rfl) (fun I C F S x hx => ?_) (fun I C F S x hx => (W I C F S x hx).pt) W
  split at hx
  · simp only [Bool.and_eq_true, Bool.or_eq_true, decide_eq_true_eq, Bool.not_eq_true'] at hx
    exact se_and (ia.e I C F S _ hx.1) (pe_one (ib.e I C F S _ hx.2))
  · simp only [Bool.and_eq_true, Bool.or_eq_true, decide_eq_true_eq, Bool.not_eq_true'] at hx
    exact se_and (ia.e I C F S _ hx.1) (ib.e I C F S _ hx.2)
  · cases hx
theorem sd_oo {a b : T} (ia : Sd M a) (ib : Sd M b) : Sd M (.oo a b) := by
  have W : ∀ I C F, Sy M I C F → ∀ x, (match x with
      | .BoolOp .Or [y, z] _ => (rep M a).t I y && (rep M b).t I z
      | .BoolOp .Or (y :: z :: u :: r) p => (rep M a).t I y && (rep M b).w I (.BoolOp .Or (z :: u :: r) p)
      | _ => false) = true → PW C.X x (tT C fun ρ h => ((ev F a).t ρ h).bnd fun x h => if x = true then .ok true h else (ev F b).t ρ h) := fun I C F S x hx => by
    split at hx
    · simp only [Bool.and_eq_true, Bool.or_eq_true, decide_eq_true_eq, Bool.not_eq_true'] at hx
      exact sw_or (ia.t I C F S _ hx.1) (pw_or1 (ib.t I C F S _ hx.2))
    · simp only [Bool.and_eq_true, Bool.or_eq_true, decide_eq_true_eq, Bool.not_eq_true'] at hx
      exact sw_or (ia.t I C F S _ hx.1) (ib.w I C F S _ hx.2)
    · cases hx
  refine sd_ofT (f := fun F ρ h => ((ev F a).e ρ h).bnd fun x h => match x with
      | .bl false => (ev F b).e ρ h
      | .bl true => .ok (.bl true) h
      | _ => .err) (g := fun F ρ h => ((ev F a).t ρ h).bnd fun x h => if x = true then .ok true h else (ev F b).t ρ h) rfl (fun _ => rfl) (fun I C F S x hx => ?_) (fun I C F S x hx => (W I C F S x hx).pt) W
  split at hx
  · simp only [Bool.and_eq_true, Bool.or_eq_true, decide_eq_true_eq, Bool.not_eq_true'] at hx
    exact se_or (ia.e I C F S _ hx.1) (pe_one (ib.e I C F S _ hx.2))
  · simp only [Bool.and_eq_true, Bool.or_eq_true, decide_eq_true_eq, Bool.not_eq_true'] at hx
    exact se_or (ia.e I C F S _ hx.1) (ib.e I C F S _ hx.2)
  · cases hx
theorem sd_cmp {op : CmpOp} {a b : T} (ia : Sd M a) (ib : Sd M b) : Sd M (.cmp op a b) := sd_ofT (f := fun F ρ h => ((ev F a).e ρ h).bnd fun x h => ((ev F b).e ρ h).bnd fun y h => cmpV op x y h)
    (g := fun F ρ h => (((ev F a).e ρ h).bnd fun x h => ((ev F b).e ρ h).bnd fun y h => cmpV op x y h).bnd truV) rfl (fun _ => rfl) (fun I C F S x hx => by
  split at hx
  · simp only [Bool.and_eq_true, Bool.or_eq_true, decide_eq_true_eq, Bool.not_eq_true'] at hx
    obtain ⟨rfl, h0, h1, h2⟩ := hx
    exact se_cmp S.K (by have := S.un; omega) h0 (ia.e I C F S _ h1) (ib.e I C F S _ h2)
  · cases hx) (fun I C F S x hx => by
  split at hx
  · simp only [Bool.and_eq_true, Bool.or_eq_true, decide_eq_true_eq, Bool.not_eq_true'] at hx
    obtain ⟨rfl, h0, h1, h2⟩ := hx
    exact st_cmp S.K (by have := S.un; omega) h0 (ia.e I C F S _ h1) (ib.e I C F S _ h2)
  · cases hx) (fun I C F S x hx => by cases hx)
theorem sd_chn {op op' : CmpOp} {a b c : T} (ia : Sd M a) (ib : Sd M b) (ic : Sd M c) : Sd M (.chn op op' a b c) := sd_ofE (f := fun F ρ h => ((ev F a).e ρ h).bnd fun x h => ((ev F b).e ρ h).bnd fun y h => (cmpV op x y h).bnd fun k h => match k with
    | .bl true => ((ev F c).e ρ h).bnd fun z h => cmpV op' y z h
    | .bl false => .ok (.bl false) h
    | _ => .err) rfl (fun _ => rfl) fun I C F S x hx => by
  split at hx
  · simp only [Bool.and_eq_true, Bool.or_eq_true, decide_eq_true_eq, Bool.not_eq_true'] at hx
    obtain ⟨rfl, rfl, h0, h1, h2, h3⟩ := hx
    exact se_chn S.K (by have := S.un; omega) h0 (ia.e I C F S _ h1) (ib.e I C F S _ h2) (ic.e I C F S _ h3)
  · cases hx
theorem sd_ife {c a b : T} (ic : Sd M c) (ia : Sd M a) (ib : Sd M b) : Sd M (.ife c a b) := sd_ofE (f := fun F ρ h => ((ev F c).t ρ h).bnd fun k h => if k = true then (ev F a).e ρ h else (ev F b).e ρ h) rfl (fun _ => rfl) fun I C F S x hx => by
  split at hx
  · simp only [Bool.and_eq_true, Bool.or_eq_true, decide_eq_true_eq, Bool.not_eq_true'] at hx
    exact se_ife (ic.t I C F S _ hx.1) (ia.e I C F S _ hx.2.1) (ib.e I C F S _ hx.2.2)
  · cases hx
theorem notSl : ∀ {b : Expr}, isSl b = false → (match b with | .Slice .. => false | _ => true) = true := by
  intro b h
  cases b <;> first | rfl | cases h
theorem sd_idx {a b : T} (ia : Sd M a) (ib : Sd M b) : Sd M (.idx a b) := sd_ofE (f := fun F ρ h => ((ev F a).e ρ h).bnd fun x h => ((ev F b).e ρ h).bnd fun y h => idxV x y h) rfl (fun _ => rfl) fun I C F S x hx => by
  split at hx
  · simp only [Bool.and_eq_true, Bool.or_eq_true, decide_eq_true_eq, Bool.not_eq_true'] at hx
    exact se_idx S.K (notSl hx.1) (ia.e I C F S _ hx.2.1) (ib.e I C F S _ hx.2.2)
  · cases hx
theorem sd_slc {a l u : T} (ia : Sd M a) (il : Sd M l) (iu : Sd M u) : Sd M (.slc a l u) := sd_ofE (f := fun F ρ h => ((ev F a).e ρ h).bnd fun x h => ((ev F l).o ρ h).bnd fun y h => ((ev F u).o ρ h).bnd fun z h => slcV x y z h) rfl (fun _ => rfl) fun I C F S x hx => by
  split at hx
  · simp only [Bool.and_eq_true, Bool.or_eq_true, decide_eq_true_eq, Bool.not_eq_true'] at hx
    exact se_slc S.K (ia.e I C F S _ hx.1) (il.o I C F S _ hx.2.1) (iu.o I C F S _ hx.2.2)
  · cases hx

theorem base_of : ∀ {o : Expr} (f : Str) (env : Env), plainBase o = true → attributeBase o f env (eval o env) = eval o env := by
  intro o f env h
  unfold attributeBase
  cases o <;> try rfl
  rename_i fn args kws p
  cases args with
  | nil =>
    cases kws with
    | nil => cases h
    | cons k r => cases fn <;> rfl
  | cons a r => cases fn <;> rfl
theorem sd_none : Sd M .none where
  e := fun I C F S x hx => by cases hx
  t := fun I C F S x hx => by cases hx
  w := fun I C F S x hx => by cases hx
  a := fun I C F S x hx => by cases hx
  o := fun I C F S x hx => by
    cases x with
    | none => exact so_none
    | some x => cases hx
  s := fun I C F S x hx => by cases hx
  ss := fun I C F S x hx => by cases hx
  g := fun I C F S x hx => by cases hx
  gs := fun I C F S x hx => by cases hx
  i := fun I C F S tg x hx => by cases hx
  ts := fun I C F S x hx => by cases hx
  k := fun I C F S x hx => by cases hx
theorem nil_of {u : T} {I : Sc} (h : (rep M u).a I [] = true) : u = .nil := by
  cases u <;> first
    | rfl
    | (cases h; done)
    | (rename_i e; cases e <;> first | (cases h; done) | (rename_i a b; cases b <;> cases h))
theorem sd_call {f : Nat} {args : T} (ia : Sd M args) : Sd M (.call f args) := sd_ofE (f := fun F ρ h => ((ev F args).a ρ h).bnd fun vs h => (F.call f vs h).nxf F.flag) rfl (fun _ => rfl) fun I C F S x hx => by
  split at hx
  · simp only [Bool.and_eq_true, Bool.or_eq_true, decide_eq_true_eq, Bool.not_eq_true'] at hx
    obtain ⟨h1, h2, h3, h5, h6, h7⟩ := hx
    obtain ⟨fa, K⟩ := S.fns f _ h1
    rename_i es _
    cases es with
    | nil => cases h6
    | cons e es => exact se_call (F := F) S.fl K S.gd (gl_of S h2) S.px S.fx h5 (ia.a I C F S _ h7) (okN h3).1
  · cases hx
theorem sd_callk {f : Nat} {args kws : T} {perm : List Nat} (ia : Sd M args) (ik : Sd M kws) : Sd M (.callk f args kws perm) := sd_ofE (f := fun F ρ h => ((ev F args).a ρ h).bnd fun vs h => ((ev F kws).a ρ h).bnd fun ws h => if vs.length = args.len ∧ ws.length = kws.len then (match getAll (vs ++ ws) perm with
    | some us => (F.call f us h).nxf F.flag
    | none => .err) else .err) rfl (fun _ => rfl) fun I C F S x hx => by
  split at hx
  · split at hx
    · rename_i ks hks
      simp only [Bool.and_eq_true, decide_eq_true_eq] at hx
      obtain ⟨h0, h1, h2, h3, h5, l1, l2, h7, h8⟩ := hx
      obtain ⟨fa, K⟩ := S.kws f _ ks perm _ (List.contains_iff_mem.mp h0) h1
      refine se_callk (F := F) S.fl K S.gd (gl_of S h2) S.px S.fx h5 hks l1 l2 (ia.a I C F S _ h7) (fun e ρ h => ?_) (ik.k I C F S _ h8) (okN h3).1
      rw [e] at h7
      have := nil_of h7
      subst this
      rfl
    · cases hx
  · cases hx
theorem sd_clov {i : Nat} {args : T} (ia : Sd M args) : Sd M (.clov i args) := sd_ofE (f := fun F ρ h => match slot ρ i with
    | some (.clo k caps) => ((ev F args).a ρ h).bnd fun vs h => F.clo k caps vs h
    | _ => .err) rfl (fun _ => rfl) fun I C F S x hx => by
  split at hx
  · simp only [Bool.and_eq_true, decide_eq_true_eq, Bool.not_eq_true'] at hx
    obtain ⟨h0, h1, h2, h3, h5, h7⟩ := hx
    refine se_clov (S.off h0) S.clo S.gd S.px (by rw [S.N]; exact h1) (vis_of' S h2) (okN h3).1 (okN h3).2 h5 (ia.a I C F S _ h7) fun e ρ h => ?_
    rw [e] at h7
    have := nil_of h7
    subst this
    rfl
  · cases hx
theorem sd_lam {k : Nat} : Sd M (.lam k) := sd_ofE (f := fun F ρ h => match F.caps[k]? with
    | some l => match capVals ρ l with
      | some vs => if PV.noClos vs then .ok (.clo k vs) h else .err
      | none => .err
    | none => .err) rfl (fun _ => rfl) fun I C F S x hx => by
  split at hx
  · rw [Bool.and_eq_true] at hx
    obtain ⟨L, l, rfl, rfl, rfl, e1, e2, hf, LM⟩ := S.lam hx.1 k _ _ _ hx.2
    rw [e2]
    exact se_lam hf e1 LM
  · cases hx
theorem bl_mem {b : BI} (h : Blt b = true) : b.str ∈ bltNames := by cases b <;> first | decide | cases h
theorem bl_val {b : BI} (h : Blt b = true) : ∃ v, b.val = some v := by cases b <;> first | exact ⟨_, rfl⟩ | cases h
theorem sd_blt {b : BI} {args : T} (ia : Sd M args) : Sd M (.blt b args) := sd_ofE (f := fun F ρ h => ((ev F args).a ρ h).bnd fun vs h => bltV b vs h) rfl (fun _ => rfl) fun I C F S x hx => by
  split at hx
  · simp only [Bool.and_eq_true, Bool.or_eq_true, decide_eq_true_eq, Bool.not_eq_true'] at hx
    obtain ⟨h1, h2, h3, h4, h5⟩ := hx
    subst h2
    obtain ⟨v, hv⟩ := bl_val h1
    have h4' := h4
    unfold noStar at h4'
    rw [List.all_cons, Bool.and_eq_true] at h4'
    exact se_blt S.K S.calm (by have := S.un; omega) S.gd hv (gl_of S h3) (S.bl _ (bl_mem h1)) (by simpa using h4'.1) h4'.2 (ia.a I C F S _ h5)
  · cases hx
theorem sd_lrg {a : T} (ia : Sd M a) : Sd M (.lrg a) := sd_ofE (f := fun F ρ h => ((ev F a).e ρ h).bnd fun x h => lrngV x h) rfl (fun _ => rfl) fun I C F S x hx => by
  split at hx
  · simp only [Bool.and_eq_true, Bool.or_eq_true, decide_eq_true_eq, Bool.not_eq_true'] at hx
    obtain ⟨rfl, rfl, h3, h4, h5, h6⟩ := hx
    exact se_lrng S.calm (gl_of S h3) (S.bl _ (by decide)) (gl_of S h4) (S.bl _ (by decide)) h5 (ia.e I C F S _ h6)
  · cases hx
theorem sd_isi {ty : Ty} {a : T} (ia : Sd M a) : Sd M (.isi ty a) := sd_ofE (f := fun F ρ h => ((ev F a).e ρ h).bnd fun x h => match isV ty x h with
    | some b => .ok (.bl b) h
    | none => .err) rfl (fun _ => rfl) fun I C F S x hx => by
  split at hx
  · simp only [Bool.and_eq_true, decide_eq_true_eq, Bool.not_eq_true'] at hx
    obtain ⟨rfl, rfl, h1, h2, h3, h4⟩ := hx
    exact se_isi S.K (fun c => (S.exi c).1) (fun c => (S.exi c).2) (gl_of S h1) (S.bl _ (by decide)) (gl_of S h2) (S.bl _ (by cases ty <;> decide)) h3 (ia.e I C F S _ h4)
  · cases hx
theorem sd_isx {c : Nat} {a : T} (ia : Sd M a) : Sd M (.isx c a) := sd_ofE (f := fun F ρ h => ((ev F a).e ρ h).bnd fun x h => match x with
    | .exc _ d _ => .ok (.bl (F.sub d c)) h
    | .non => .ok (.bl false) h
    | _ => .err) rfl (fun _ => rfl) fun I C F S x hx => by
  split at hx
  · simp only [Bool.and_eq_true, decide_eq_true_eq, Bool.not_eq_true'] at hx
    obtain ⟨rfl, h0, h1, h2, h3, h4, h5⟩ := hx
    exact se_isx (fun c => (S.exi c).1) (fun d => S.exs d c) (S.exn c) (gl_of S h1) (S.bl _ (by decide)) (gl_of S h2) (S.cls c _ h0) (okN h3).1 h4 (ia.e I C F S _ h5)
  · cases hx
theorem sd_exn {c : Nat} {a : T} (ia : Sd M a) : Sd M (.exn c a) := sd_ofE (f := fun F ρ h => ((ev F a).e ρ h).bnd fun x h => .ok (.exc true c x) h) rfl (fun _ => rfl) fun I C F S x hx => by
  split at hx
  · simp only [Bool.and_eq_true, decide_eq_true_eq, Bool.not_eq_true'] at hx
    obtain ⟨h0, h1, h2, h3, h4⟩ := hx
    obtain ⟨D, fI, cc, k, F1, F2, F3, F4⟩ := S.exf
    exact se_exn (F0 := F) F1 (F4 c).1 (F4 c).2 F3 F2 (gl_of S h1) (S.cls c _ h0) (okN h2).1 h3 (ia.e I C F S _ h4)
  · cases hx
theorem sd_attr {a : T} (ia : Sd M a) : Sd M (.attr a) := sd_ofE (f := fun F ρ h => ((ev F a).e ρ h).bnd fun x h => match x with
    | .exc _ _ v => .ok v h
    | _ => .err) rfl (fun _ => rfl) fun I C F S x hx => by
  split at hx
  · simp only [Bool.and_eq_true, decide_eq_true_eq, Bool.not_eq_true'] at hx
    obtain ⟨rfl, h1, h2⟩ := hx
    obtain ⟨D, fI, cc, k, F1, F2, F3, F4⟩ := S.exf
    exact se_attr (fun c => (S.exi c).1) (fun c => (F4 c).1.val) (base_of _ _ h1) (ia.e I C F S _ h2)
  · cases hx
theorem sd_bit {a : T} (ia : Sd M a) : Sd M (.bit a) := sd_ofE (f := fun F ρ h => ((ev F a).e ρ h).bnd fun x h => bitlV x h) rfl (fun _ => rfl) fun I C F S x hx => by
  split at hx
  · simp only [Bool.and_eq_true, decide_eq_true_eq, Bool.not_eq_true'] at hx
    obtain ⟨rfl, h1, h2, h3⟩ := hx
    exact se_bits (ia.e I C F S _ h3) (base_of _ _ h2) h1
  · cases hx
theorem sd_rpx {a : T} (ia : Sd M a) : Sd M (.rpx a) := sd_ofE (f := fun F ρ h => ((ev F a).e ρ h).bnd fun x h => match x with
    | .exc true c v => match dataOf h v with
      | some d => if dictOk d = true ∧ d.showable = true ∧ d.depth ≤ 60 ∧ (F.cnm c).length + d.shown.length + 2 ≤ sizeLine then .ok (.str (F.cnm c ++ Str.ofString "(" ++ d.shown ++ Str.ofString ")")) h else .err
      | none => .err
    | _ => reprV x h) rfl (fun _ => rfl) fun I C F S x hx => by
  split at hx
  · simp only [Bool.and_eq_true, decide_eq_true_eq, Bool.not_eq_true'] at hx
    obtain ⟨rfl, h1, h2, h3⟩ := hx
    exact se_rpx S.K S.calm S.un S.gd S.exr (gl_of S h1) (S.bl _ (by decide)) h2 (ia.e I C F S _ h3)
  · cases hx
end
end EV
set_option linter.all false
set_option maxRecDepth 100000
set_option maxHeartbeats 4000000
/-! Ev17: .. statements, and all together. -/
namespace EV
open PySem PySem.Spec PyProof.Rows L2
section
variable {M : Nms}
theorem sd_nil : Sd M .nil where
  e := fun I C F S x hx => by cases hx
  t := fun I C F S x hx => by cases hx
  w := fun I C F S x hx => by cases hx
  a := fun I C F S x hx => by
    cases x with
    | nil => exact sa_nil
    | cons y r => cases hx
  o := fun I C F S x hx => by cases hx
  s := fun I C F S x hx => by cases hx
  ss := fun I C F S x hx => by
    cases x with
    | nil => exact ss_nil
    | cons y r => cases hx
  g := fun I C F S x hx => by cases hx
  gs := fun I C F S x hx => by
    cases x with
    | nil => exact sgs_nil
    | cons y r => cases hx
  i := fun I C F S tg x hx => by cases hx
  ts := fun I C F S x hx => by
    cases x with
    | nil => exact pts_nil.imp fun σ H Q ⟨φ, ρ, h, rl, po⟩ => po.ok' rl.hr
    | cons y r => cases hx
  k := fun I C F S x hx => by
    cases x with
    | nil => exact sk_nil
    | cons y r => cases hx
theorem sd_cons {e r : T} (ie : Sd M e) (ir : Sd M r) : Sd M (.cons e r) where
  e := fun I C F S x hx => by cases hx
  t := fun I C F S x hx => by cases hx
  w := fun I C F S x hx => by cases hx
  a := fun I C F S x hx => by
    cases x with
    | nil => cases hx
    | cons y z =>
      have hx : (!isStar y && ((rep M e).e I y && (rep M r).a I z)) = true := hx
      simp only [Bool.and_eq_true, Bool.not_eq_true'] at hx
      exact sa_cons hx.1 (ie.e I C F S _ hx.2.1) (ir.a I C F S _ hx.2.2)
  o := fun I C F S x hx => by cases hx
  s := fun I C F S x hx => by cases hx
  ss := fun I C F S x hx => by
    have gen : ∀ x, (match x with
      | y :: z => (rep M e).s I y && (rep M r).ss I z
      | [] => false) = true → PSs C.X x (tS C (ev F (.cons e r)).s) := fun x hx => by
      cases x with
      | nil => cases hx
      | cons y z =>
        simp only [Bool.and_eq_true] at hx
        exact ss_cons (ie.s I C F S _ hx.1) (ir.ss I C F S _ hx.2)
    cases e
    case kil i => exact ss_kil (ir.ss I C F S x hx)
    all_goals exact gen x hx
  g := fun I C F S x hx => by cases hx
  gs := fun I C F S x hx => by
    cases x with
    | nil => cases hx
    | cons y z =>
      have hx : (!isStar y && ((rep M e).g I y && (rep M r).gs I z)) = true := hx
      simp only [Bool.and_eq_true, Bool.not_eq_true'] at hx
      exact sgs_cons (F := F) S.fl hx.1 (ie.g I C F S _ hx.2.1) (ir.gs I C F S _ hx.2.2)
  i := fun I C F S tg x hx => by cases hx
  ts := fun I C F S x hx => by cases hx
  k := fun I C F S x hx => by
    cases x with
    | nil => cases hx
    | cons y z =>
      have hx : (!isStar (kwV y) && ((rep M e).e I (kwV y) && (rep M r).a I (z.map kwV))) = true := hx
      simp only [Bool.and_eq_true, Bool.not_eq_true'] at hx
      obtain ⟨nm, v, p⟩ := y
      exact sk_cons (ie.e I C F S _ hx.2.1) (ir.k I C F S _ hx.2.2)
theorem sw_const {tg : Expr} {es : List Expr} {k : Nat} {p : Pos} {env : Env} (h : es.all (foldedForSure 8) = true) : swappedStores [tg] (.Tuple es k p) env = pure none := by
  cases tg <;> first
    | rfl
    | (simp only [swappedStores]
       (repeat' split) <;> first
         | rfl
         | (exfalso; rename_i z; exact z h)
         | skip)
theorem sd_asg {tg e : T} (it : Sd M tg) (ie : Sd M e) : Sd M (.asg tg e) := sd_ofS (f := fun F ρ h => ((ev F e).e ρ h).bnd fun v h => ((ev F tg).g v ρ h).bnd fun ρ h => .ok (.nx ρ) h) rfl (fun _ => rfl) fun I C F S x hx => by
  split at hx
  · simp only [Bool.and_eq_true, Bool.or_eq_true, decide_eq_true_eq, Bool.not_eq_true'] at hx
    obtain ⟨h1, h2, h3, h4, h5⟩ := hx
    refine ss_asg h1 (ie.e I C F S _ h4) (it.g I C F S _ h5) (notComp_sw ?_) ?_
    · rename_i v _
      cases v <;> first | rfl | cases h2
    · rcases h3 with (h3 | h3) | h3
      · refine notTup_sw ?_
        rename_i v _
        cases v <;> first | rfl | cases h3
      · refine notTup_sw2 ?_
        rename_i t' _ _
        cases t' <;> first | rfl | cases h3
      · rename_i v _
        cases v <;> first | (exact sw_const h3) | cases h3
  · cases hx
theorem sd_iff {c a b : T} (ic : Sd M c) (ia : Sd M a) (ib : Sd M b) : Sd M (.iff c a b) := sd_ofS (f := fun F ρ h => ((ev F c).t ρ h).bnd fun k h => if k = true then (ev F a).s ρ h else (ev F b).s ρ h) rfl (fun _ => rfl) fun I C F S x hx => by
  split at hx
  · simp only [Bool.and_eq_true] at hx
    exact ss_if (ic.t I C F S _ hx.1) (ia.ss I C F S _ hx.2.1) (ib.ss I C F S _ hx.2.2)
  · cases hx
theorem sd_whl {c b : T} (ic : Sd M c) (ib : Sd M b) : Sd M (.whl c b) := sd_ofS (f := fun F ρ h => whileL (ev F c).t (ev F b).s F.wf ρ h) rfl (fun _ => rfl) fun I C F S x hx => by
  split at hx
  · simp only [Bool.and_eq_true] at hx
    exact ss_whl S.po (ic.t I C F S _ hx.1) (ib.ss I C F S _ hx.2)
  · cases hx
theorem fold_of : ∀ {e : Expr} {env : Env}, Rp.ofE.notSet e = true → ∀ x, foldedSetIterable e env x = pure x := by
  intro e env h x
  cases e <;> first | rfl | cases h
theorem sd_fo {tg it b : T} (ig : Sd M tg) (ii : Sd M it) (ib : Sd M b) : Sd M (.fo tg it b) := sd_ofS (f := fun F ρ h => ((ev F it).i ρ h).bnd fun it h => if (!F.flag || it.noClo) = true then forL (ev F tg).g (ev F b).s it F.wf 0 ρ h else .err) rfl (fun _ => rfl) fun I C F S x hx => by
  split at hx
  · simp only [Bool.and_eq_true] at hx
    obtain ⟨h1, h2, h3, h4⟩ := hx
    exact ss_for (F := F) S.fl S.po S.calm (ii.i I C F S _ _ h3) (ig.g I C F S _ h2) (ib.ss I C F S _ h4) (fold_of h1)
  · cases hx
theorem sd_ret {e : T} (ie : Sd M e) : Sd M (.ret e) := sd_ofS (f := fun F ρ h => ((ev F e).e ρ h).bnd fun v h => retS F v h) rfl (fun _ => rfl) fun I C F S x hx => by
  split at hx
  · exact ss_ret S.fl (ie.e I C F S _ hx)
  · cases hx
theorem sd_retn : Sd M .retn := sd_ofS (f := fun F _ h => retS F .non h) rfl (fun _ => rfl) fun I C F S x hx => by
  split at hx
  · exact ss_retN S.fl
  · cases hx
theorem sd_xpr {e : T} (ie : Sd M e) : Sd M (.xpr e) := sd_ofS (f := fun F ρ h => ((ev F e).e ρ h).bnd fun _ h => .ok (.nx ρ) h) rfl (fun _ => rfl) fun I C F S x hx => by
  split at hx
  · simp only [Bool.and_eq_true, Bool.not_eq_true'] at hx
    refine ss_xpr (notComp_sw ?_) (ie.e I C F S _ hx.2)
    rename_i y _
    have h2 := hx.1
    cases y <;> first | rfl | cases h2
  · cases hx
theorem sd_app {l e : T} (il : Sd M l) (ie : Sd M e) : Sd M (.app l e) := sd_ofS (f := fun F ρ h => ((ev F l).e ρ h).bnd fun x h => match x with
    | .ref n => match isFl h n with
      | some _ => ((ev F e).e ρ h).bnd fun y h => match isFl h n with
        | some xs => if xs.length < sizeLine then .ok (.nx ρ) (h.set n (.lst false (xs ++ [y]))) else .err
        | none => .err
      | none => .err
    | _ => .err) rfl (fun _ => rfl) fun I C F S x hx => by
  split at hx
  · simp only [Bool.and_eq_true, decide_eq_true_eq, Bool.not_eq_true'] at hx
    obtain ⟨rfl, h1, h2, h3, h4, h5⟩ := hx
    exact ss_app S.K h3 (il.e I C F S _ h4) (ie.e I C F S _ h5) (base_of _ _ h2) h1
  · cases hx
theorem sd_ext {l e : T} (il : Sd M l) (ie : Sd M e) : Sd M (.ext l e) := sd_ofS (f := fun F ρ h => ((ev F l).e ρ h).bnd fun x h => match x with
    | .ref n => match isFl h n with
      | some _ => ((ev F e).e ρ h).bnd fun y h => match y with
        | .ref m => match isFl h n, isFl h m with
          | some xs, some ys => if xs.length + ys.length ≤ sizeLine then .ok (.nx ρ) (h.set n (.lst false (xs ++ ys))) else .err
          | _, _ => .err
        | _ => .err
      | none => .err
    | _ => .err) rfl (fun _ => rfl) fun I C F S x hx => by
  split at hx
  · simp only [Bool.and_eq_true, decide_eq_true_eq, Bool.not_eq_true'] at hx
    obtain ⟨rfl, h1, h2, h3, h4, h5⟩ := hx
    exact ss_ext S.K h3 (il.e I C F S _ h4) (ie.e I C F S _ h5) (base_of _ _ h2) h1
  · cases hx
theorem sd_brk : Sd M .brk := sd_ofS (f := fun _ ρ h => .ok (.bk ρ) h) rfl (fun _ => rfl) fun I C F S x hx => by
  split at hx
  · exact ss_brk
  · cases hx
theorem sd_cnt : Sd M .cnt := sd_ofS (f := fun _ ρ h => .ok (.ct ρ) h) rfl (fun _ => rfl) fun I C F S x hx => by
  split at hx
  · exact ss_cnt
  · cases hx
theorem sd_pas : Sd M .pas := sd_ofS (f := fun _ ρ h => .ok (.nx ρ) h) rfl (fun _ => rfl) fun I C F S x hx => by
  split at hx
  · exact ss_pas
  · cases hx
theorem sd_g {t : T} {r : Sc → Expr → Bool} (h1 : rep M t = { Rp.no with g := r }) (h : ∀ I C F, Sy M I C F → ∀ x, r I x = true → PG C.X x (tG C t.wr (ev F t).g)) : Sd M t where
  e := fun I C F S x hx => by rw [h1] at hx; cases hx
  t := fun I C F S x hx => by rw [h1] at hx; cases hx
  w := fun I C F S x hx => by rw [h1] at hx; cases hx
  a := fun I C F S x hx => by rw [h1] at hx; cases hx
  o := fun I C F S x hx => by rw [h1] at hx; cases hx
  s := fun I C F S x hx => by rw [h1] at hx; cases hx
  ss := fun I C F S x hx => by rw [h1] at hx; cases hx
  g := fun I C F S x hx => by rw [h1] at hx; exact h I C F S x hx
  gs := fun I C F S x hx => by rw [h1] at hx; cases hx
  i := fun I C F S tg x hx => by rw [h1] at hx; cases hx
  ts := fun I C F S x hx => by rw [h1] at hx; cases hx
  k := fun I C F S x hx => by rw [h1] at hx; cases hx
theorem sd_i {t : T} {r : Sc → Expr → Bool} (h1 : rep M t = { Rp.no with i := r }) (h : ∀ I C F, Sy M I C F → ∀ tg x, r I x = true → PI C.X tg x (tI C (ev F t).i)) : Sd M t where
  e := fun I C F S x hx => by rw [h1] at hx; cases hx
  t := fun I C F S x hx => by rw [h1] at hx; cases hx
  w := fun I C F S x hx => by rw [h1] at hx; cases hx
  a := fun I C F S x hx => by rw [h1] at hx; cases hx
  o := fun I C F S x hx => by rw [h1] at hx; cases hx
  s := fun I C F S x hx => by rw [h1] at hx; cases hx
  ss := fun I C F S x hx => by rw [h1] at hx; cases hx
  g := fun I C F S x hx => by rw [h1] at hx; cases hx
  gs := fun I C F S x hx => by rw [h1] at hx; cases hx
  i := fun I C F S tg x hx => by rw [h1] at hx; exact h I C F S tg x hx
  ts := fun I C F S x hx => by rw [h1] at hx; cases hx
  k := fun I C F S x hx => by rw [h1] at hx; cases hx
theorem sd_tn {i : Nat} : Sd M (.tn i) := sd_g rfl fun I C F S x hx => by
  split at hx
  · simp only [Bool.and_eq_true, Bool.or_eq_true, decide_eq_true_eq] at hx
    obtain ⟨h1, h2⟩ := hx
    have sl : ∀ {y k}, I.sc.names.lookup y = some k → C.X.env.scope.names.lookup y = some k := fun {y k} e => by rw [S.sc]; exact e
    refine sg_tn (F := F) (by rw [S.N]; exact S.nd) S.fl (by rw [S.N]; exact h1) ?_ ?_
    · rcases h2 with h2 | ⟨_, h2⟩
      · exact .inl (sl h2)
      · exact .inr (sl h2)
    · rcases h2 with h2 | ⟨h2, _⟩
      · exact .inr (sl h2)
      · exact .inl (S.fn h2 _)
  · cases hx
theorem sd_par {is : List Nat} {a : T} (ia : Sd M a) : Sd M (.par is a) := sd_ofS (f := fun F ρ h => ((ev F a).a ρ h).bnd fun vs h => parV F is vs ρ h) rfl (fun _ => rfl) fun I C F S x hx => by
  split at hx
  · simp only [Bool.and_eq_true, decide_eq_true_eq] at hx
    obtain ⟨h0, h1, h2, h3, h4, h5, h6, h7, h8, h9⟩ := hx
    have sl : ∀ {y k}, I.sc.names.lookup y = some k → C.X.env.scope.names.lookup y = some k := fun {y k} e => by rw [S.sc]; exact e
    exact ss_par2 S.fl S.calm (by rw [S.N]; exact S.nd) (by rw [S.N]; exact h3) (by rw [S.N]; exact h4) h1 (sl h5) (sl h6) (ia.a I C F S _ h9) (sw2 (S.fb h0) (sl h5) (sl h6) h7 h2 h8) rfl
  · simp only [Bool.and_eq_true, decide_eq_true_eq] at hx
    obtain ⟨h0, g1, g2, g3, n1, n2, n3, i1, i2, i3, l1, l2, l3, p1, p2, p3, ha⟩ := hx
    have sl : ∀ {y k}, I.sc.names.lookup y = some k → C.X.env.scope.names.lookup y = some k := fun {y k} e => by rw [S.sc]; exact e
    exact ss_par3 S.fl S.calm (by rw [S.N]; exact S.nd) (by rw [S.N]; exact i1) (by rw [S.N]; exact i2) (by rw [S.N]; exact i3) g1 g2 g3 (sl l1) (sl l2) (sl l3) (ia.a I C F S _ ha) (sw3 (S.fb h0) (sl l1) (sl l2) (sl l3) p1 p2 n1 n2 n3 p3) rfl
  · cases hx
theorem sd_aug {i : Nat} {op : Operator} {e : T} (ie : Sd M e) : Sd M (.aug i op e) := sd_ofS (f := fun F ρ h => match slot ρ i with
    | some x => ((ev F e).e ρ h).bnd fun y h => augV F i op x y ρ h
    | none => .err) rfl (fun _ => rfl) fun I C F S x hx => by
  split at hx
  · simp only [Bool.and_eq_true, Bool.or_eq_true, decide_eq_true_eq] at hx
    obtain ⟨rfl, h1, h2, h3⟩ := hx
    have sl : ∀ {y k}, I.sc.names.lookup y = some k → C.X.env.scope.names.lookup y = some k := fun {y k} e => by rw [S.sc]; exact e
    refine ss_aug (F := F) (by rw [S.N]; exact S.nd) S.fl (by rw [S.N]; exact h1) ?_ ?_ (ie.e I C F S _ h3)
    · rcases h2 with h2 | ⟨_, h2⟩
      · exact .inl (sl h2)
      · exact .inr (sl h2)
    · rcases h2 with h2 | ⟨h2, _⟩
      · exact .inr (sl h2)
      · exact .inl (S.fn h2 _)
  · cases hx
theorem sd_tt {ts : T} (it : Sd M ts) : Sd M (.tt ts) := sd_g rfl fun I C F S x hx => by
  split at hx
  · simp only [Bool.and_eq_true, decide_eq_true_eq] at hx
    exact sg_tt S.K S.calm hx.1 hx.2.1 (it.gs I C F S _ hx.2.2)
  · cases hx
theorem sd_tsub {o i : T} (io : Sd M o) (ii : Sd M i) : Sd M (.tsub o i) := sd_g rfl fun I C F S x hx => by
  split at hx
  · simp only [Bool.and_eq_true, Bool.not_eq_true'] at hx
    exact sg_tsub (notSl hx.1) (io.e I C F S _ hx.2.1) (ii.e I C F S _ hx.2.2)
  · cases hx
theorem sd_rng1 {a : T} (ia : Sd M a) : Sd M (.rng1 a) := sd_i rfl fun I C F S tg x hx => by
  split at hx
  · simp only [Bool.and_eq_true, decide_eq_true_eq, Bool.not_eq_true'] at hx
    obtain ⟨rfl, h1, h2, h3⟩ := hx
    exact si_rng1 (gl_of S h1) (S.bl _ (by decide)) h2 (ia.e I C F S _ h3)
  · cases hx
theorem sd_rng2 {a b : T} (ia : Sd M a) (ib : Sd M b) : Sd M (.rng2 a b) := sd_i rfl fun I C F S tg x hx => by
  split at hx
  · simp only [Bool.and_eq_true, decide_eq_true_eq, Bool.not_eq_true'] at hx
    obtain ⟨rfl, h1, h2, h3, h4, h5⟩ := hx
    exact si_rng2 (gl_of S h1) (S.bl _ (by decide)) h2 h3 (ia.e I C F S _ h4) (ib.e I C F S _ h5)
  · cases hx
/-- within a comprehension's block -/
theorem Sy.blk {I C F} (S : Sy M I C F) (s : Shared) (H : Hp) (scope : Scope) (c : Addr) (cl : List (Str × Addr)) (fp : List Addr) :
    Sy M ⟨relSc scope I.sc, I.N, false, false⟩ (C.blk (C.X.blk s H scope (compEnvC scope cl c C.X.env) fp)) F where
  K := S.K
  N := S.N
  nd := S.nd
  sc := by
    show relS scope C.X.env.scope = relS scope I.sc
    rw [S.sc]
  calm := S.calm
  un := S.un
  gd := S.gd
  fn := fun h => by cases h
  fb := fun h => by cases h
  off := fun _ => rfl
  fl := fun h => by cases h
  po := PassesOwn.never
  px := fun pins σ H s e s' I z => by
    obtain ⟨a, B, H', cls, d, _, _, _, _, _, _, _, z⟩ := z
    exact z.2.elim
  glb := S.glb
  bl := S.bl
  fns := fun f x e => by
    obtain ⟨fa, K⟩ := S.fns f x e
    exact ⟨fa, K.fn, K.mg, K.kp⟩
  cls := S.cls
  exf := S.exf
  exi := S.exi
  exs := S.exs
  exn := S.exn
  exr := S.exr
  tk := fun h => by cases h
  stk := fun h => by cases h
  fx := fun h => by cases h
  clo := fun k => ⟨(S.clo k).ex⟩
  lam := fun h => by cases h
  kws := fun f n ks perm x e1 e2 => by
    obtain ⟨fa, K⟩ := S.kws f n ks perm x e1 e2
    exact ⟨fa, K.fn, K.mg, K.kp⟩
  exm := S.exm
theorem blk_ok {N : List Str} {sc scope : Scope} {own : List Nat} (h : blkB N sc scope own = true) : ∃ o : List (Str × Nat), o.map (·.2) = own ∧ BlkOk N sc scope o := by
  unfold blkB at h
  simp only [Bool.and_eq_true, Bool.or_eq_true, List.all_eq_true, List.any_eq_true, decide_eq_true_eq, Bool.not_eq_true'] at h
  obtain ⟨⟨⟨⟨h1, h2⟩, h3⟩, h4⟩, h5⟩ := h
  refine ⟨own.map fun i => ((N[i]?).getD "", i), by simp [List.map_map, Function.comp_def], h1, h2, fun p hp => ?_, fun y hy e => ?_, fun y hy e => ?_⟩
  · obtain ⟨i, hi, rfl⟩ := List.mem_map.mp hp
    obtain ⟨x, hx⟩ := Option.isSome_iff_exists.mp (h5 i hi)
    show N[i]? = some ((N[i]?).getD "")
    rw [hx]
    rfl
  · rcases h3 y hy with (z | z) | z
    · exact absurd e z
    · exact .inl z
    · exact .inr z
  · rcases h4 y hy with (⟨z1, z2⟩ | ⟨i, hi, z⟩) | z
    · rcases e with e | e
      · exact absurd e z1
      · exact absurd e z2
    · refine .inl (List.mem_map.mpr ⟨((N[i]?).getD "", i), List.mem_map.mpr ⟨i, hi, rfl⟩, ?_⟩)
      rw [z]
      rfl
    · refine .inr fun hm => ?_
      have := List.contains_iff_mem.mpr hm
      rw [z] at this
      cases this
theorem sd_lc {own : List Nat} {tg it tst el : T} (ig : Sd M tg) (ii : Sd M it) (itt : Sd M tst) (ie : Sd M el) : Sd M (.lc own tg it tst el) := sd_ofE (f := fun F ρ h => ((ev F it).i ρ h).bnd fun it h => if (!F.flag || it.noClo) = true then
      (compL (ev F tg).g (ev F tst).t (ev F el).e it (wipeE (if F.flag then killE ρ else ρ) own) h.length F.wf 0 ((if F.flag then killH h else h) ++ [.lst false []])).nox else .err) rfl (fun _ => rfl) fun I C F S x hx => by
  split at hx
  · simp only [Bool.and_eq_true, List.all_eq_true] at hx
    obtain ⟨h1, h2, h3, h4, h5, h6, h7⟩ := hx
    obtain ⟨o, ho, ok⟩ := blk_ok h1
    subst ho
    exact se_lcE (F := F) S.fl S.calm (by rw [S.N]; exact S.nd) (ii.i I C F S _ _ h4) (by rw [S.N, S.sc]; exact ok) (fun i hi => List.contains_iff_mem.mp (h2 i hi)) (fun s H c cl fp => ig.g _ _ F (S.blk s H _ c cl fp) _ h5) (fun s H c cl fp => itt.ts _ _ F (S.blk s H _ c cl fp) _ h6) (fun s H c cl fp => ie.e _ _ F (S.blk s H _ c cl fp) _ h7) (fold_of h3)
  · cases hx
theorem sd_rse {c : Nat} {e : T} (ie : Sd M e) : Sd M (.rse c e) := sd_ofS (f := fun F ρ h => ((ev F e).e ρ h).bnd fun v h => .ex c v h) rfl (fun _ => rfl) fun I C F S x hx => by
  split at hx
  · simp only [Bool.and_eq_true, decide_eq_true_eq, Bool.not_eq_true'] at hx
    obtain ⟨h0, h1, h2, h3, h4, h5, h6⟩ := hx
    obtain ⟨D, fI, cc, k, F1, F2, F3, F4⟩ := S.exf
    exact ss_rse (S.off h1) S.calm (S.tk h0) F1 (F4 c).1 (F4 c).2 F3 F2 (gl_of S h3) (S.cls c _ h2) (okN h4).1 h5 (ie.e I C F S _ h6)
  · cases hx
theorem sd_try1 {i j k c q : Nat} : Sd M (.try1 i j k c (.clov q .nil)) := sd_ofS (f := fun F ρ h => match (match slot ρ q with
        | some (.clo k caps) => (Rz.ok [] h).bnd fun vs h => F.clo k caps vs h
        | _ => .err) with
      | .ok v h => .ok (.nx (ρ.set i (some v))) h
      | .ex d v h => if F.sub d c then .ok (.nx ((ρ.set j (some (.exc false d v))).set k none)) h else .err
      | .err => .err) rfl (fun _ => rfl) fun I C F S x hx => by
  split at hx
  · simp only [Bool.and_eq_true, decide_eq_true_eq, Bool.not_eq_true'] at hx
    obtain ⟨h0, h1, rfl, h3, h4, h5, h6, h7, h8, h9, h10, h11, h12, h13, h14, h15, h16⟩ := hx
    obtain ⟨s1, s2, s3⟩ := S.stk h0
    exact ss_try1 (F := F) (S.off h1) S.clo S.gd s3 s1 s2 (by rw [S.N]; exact S.nd) (by rw [S.N]; exact h4) (by rw [S.N]; exact h5) (by rw [S.N]; exact h6) (by rw [S.N]; exact h7) h3 (by rw [S.sc]; exact h8) (by rw [S.sc]; exact h9) (by rw [S.sc]; exact h10) (vis_of' S h11) h12 h13
      ⟨gl_of S h15, (okN h16).1, .inl (S.cls c _ h14)⟩ fun d => S.exm d c
  · cases hx
theorem sd_alc {i : Nat} {own : List Nat} {tg it tst el : T} (ig : Sd M tg) (ii : Sd M it) (itt : Sd M tst) (ie : Sd M el) : Sd M (.alc i own tg it tst el) := sd_ofS (f := fun F ρ h => (((ev F it).i ρ h).bnd fun it h => if (!F.flag || it.noClo) = true then
      (compL (ev F tg).g (ev F tst).t (ev F el).e it (wipeE (if F.flag then killE ρ else ρ) own) h.length F.wf 0 ((if F.flag then killH h else h) ++ [.lst false []])).nox else .err).bnd fun v h => (putS F i v ρ h).bnd fun ρ h => .ok (.nx ρ) h) rfl (fun _ => rfl) fun I C F S x hx => by
  split at hx
  · simp only [Bool.and_eq_true, decide_eq_true_eq, Bool.not_eq_true', List.all_eq_true] at hx
    obtain ⟨h0, hN, hl, hln, hns, h1, h2, h3, h4, h5, h6, h7⟩ := hx
    obtain ⟨o, ho, ok⟩ := blk_ok h1
    subst ho
    rename_i y py elt t' iter ifs scope p pp
    have nd : C.X.N.Nodup := by rw [S.N]; exact S.nd
    have hi : C.X.N[i]? = some y := by rw [S.N]; exact hN
    have hyl : C.X.env.scope.names.lookup y = some .local := by rw [S.sc]; exact hl
    have sw : swapsWith (.ListComp elt [⟨t', iter, ifs, 0⟩] scope p) (some (.Name y py)) pp.line C.X.env = pure true := by
      show (pure (C.X.env.blockKind == .function && C.X.env.kindOf y == some .local && py.line == p.line && !(scope.names.any fun (n, k) => n == y && (k == .local || k == .cell))) : Sem Bool) = pure true
      have k1 : C.X.env.kindOf y = some .local := hyl
      rw [S.fb h0, k1, hln, hns]
      simp
    have okk : BlkOk C.X.N C.X.env.scope scope o := by rw [S.N, S.sc]; exact ok
    have hg := fun s H c cl fp => ig.g _ _ F (S.blk s H scope c cl fp) _ h5
    have ht := fun s H c cl fp => itt.ts _ _ F (S.blk s H scope c cl fp) _ h6
    have he := fun s H c cl fp => ie.e _ _ F (S.blk s H scope c cl fp) _ h7
    have hi2 := ii.i I C F S t' _ h4
    refine ⟨fun pins s σ H D J ⟨φ, ρ, h, rl, p⟩ => ?_⟩
    refine (ps_setLc (g := tG (C.blk C.X) tg.wr (ev F tg).g) (tt := tT (C.blk C.X) (ev F tst).t) (te := tE (C.blk C.X) (ev F el).e) S.calm nd hi hyl sw hi2 okk (fun s H c cl fp => (hg s H c cl fp).imp fun V σ H Q => blkG) (fun s H c cl fp => (ht s H c cl fp).imp fun σ H Q => blkT) (fun s H c cl fp => (he s H c cl fp).imp fun σ H Q => blkE) (fold_of h3)).run pins s σ H D J ?_
    refine se_lc (F := F) S.fl S.calm nd hi2 okk (fun i hi => List.contains_iff_mem.mp (h2 i hi)) hg ht he (fold_of h3) (tE.mk rl (p.bnd.po.imp fun x φ1 h1 H1 s1 hr1 p1 V v rl1 => ?_))
    have hlt : i < σ.length := by rw [J.len]; exact (List.getElem?_eq_some_iff.mp hi).1
    obtain ⟨ρ', h', rl', q⟩ := put_ok S.fl rl1 v hlt (fun _ => loc_nf hi (.inl hyl)) p1.bnd
    exact q φ1 H1 Stp.refl _ rl'
  · cases hx
/-- ALL: the IR that rep finds right does what the evaluator computes -/
theorem sound (t : T) : Sd M t := by
  induction t with
  | var i => exact sd_var i
  | cst c => exact sd_cst c
  | glb g => exact sd_glb g
  | tup es ih => exact sd_tup ih
  | lst es ih => exact sd_lst ih
  | dct0 => exact sd_dct0
  | bin op a b ia ib => exact sd_bin ia ib
  | neg a ia => exact sd_neg ia
  | nt a ia => exact sd_nt ia
  | an a b ia ib => exact sd_an ia ib
  | oo a b ia ib => exact sd_oo ia ib
  | cmp op a b ia ib => exact sd_cmp ia ib
  | chn op op' a b c ia ib ic => exact sd_chn ia ib ic
  | ife c a b ic ia ib => exact sd_ife ic ia ib
  | idx a i ia ii => exact sd_idx ia ii
  | slc a lo hi ia il iu => exact sd_slc ia il iu
  | rvs a ia => exact sd_no rfl
  | none => exact sd_none
  | call f args ia => exact sd_call ia
  | callk f args kws perm ia ik => exact sd_callk ia ik
  | blt b args ia => exact sd_blt ia
  | isi ty a ia => exact sd_isi ia
  | isx c a ia => exact sd_isx ia
  | clov i args ia => exact sd_clov ia
  | exn c a ia => exact sd_exn ia
  | attr a ia => exact sd_attr ia
  | lc own tg it tst el ig ii itt ie => exact sd_lc ig ii itt ie
  | lam k => exact sd_lam
  | nil => exact sd_nil
  | cons e r ie ir => exact sd_cons ie ir
  | star e r ie ir => exact sd_no rfl
  | asg tg e ig ie => exact sd_asg ig ie
  | aug i op e ie => exact sd_aug ie
  | iff c a b ic ia ib => exact sd_iff ic ia ib
  | whl c b ic ib => exact sd_whl ic ib
  | fo tg it b ig ii ib => exact sd_fo ig ii ib
  | ret e ie => exact sd_ret ie
  | retn => exact sd_retn
  | xpr e ie => exact sd_xpr ie
  | app l e il ie => exact sd_app il ie
  | ext l e il ie => exact sd_ext il ie
  | rse c e ie => exact sd_rse ie
  | alc i own tg it tst el ig ii itt ie => exact sd_alc ig ii itt ie
  | brk => exact sd_brk
  | cnt => exact sd_cnt
  | pas => exact sd_pas
  | doc => exact sd_no rfl
  | try1 i j k c e ie =>
    cases e with
    | clov q a =>
      cases a with
      | nil => exact sd_try1
      | _ => exact sd_no rfl
    | _ => exact sd_no rfl
  | kil i => exact sd_no rfl
  | rpx a ia => exact sd_rpx ia
  | lrg a ia => exact sd_lrg ia
  | bit a ia => exact sd_bit ia
  | par is a ia => exact sd_par ia
  | tn i => exact sd_tn
  | tt ts it => exact sd_tt it
  | tsub o i io ii => exact sd_tsub io ii
  | rng1 a ia => exact sd_rng1 ia
  | rng2 a b ia ib => exact sd_rng2 ia ib
end
end EV
set_option linter.all false
set_option maxRecDepth 100000
set_option maxHeartbeats 2000000
/-! Ev18: a whole program; the law's end. -/
namespace EV
open PySem PySem.Spec PyProof.Rows L2

/-- what a lambda of the text captures, its parameters, the slots of what it captures -/
structure LmD where
  names : List Str
  lps : List Str
  caps : List Nat
/-- without lambdas -/
def Nms.m0 (M : Nms) : Nms := { M with lamB := fun _ _ _ _ _ => false }
def BodyOk (M : Nms) (b : LB) (L : LamI) (lps : List Str) : Prop := match b with
  | .call f args => ∃ x p e es pos, L.body = .Call (.Name x p) (e :: es) [] pos ∧ M.fns[f]? = some x ∧ glB L.scope x = true ∧ okName x = true ∧ (e :: es).all (fun e => !isStar e) = true ∧ (rep M.m0 args).a ⟨L.scope, L.names ++ lps, false, true⟩ (e :: es) = true
  | .expr e => (rep M.m0 e).e ⟨L.scope, L.names ++ lps, false, true⟩ L.body = true
structure LamP (M : Nms) (lams : List Ld) (lmd : List LmD) (k : Nat) (L : LamI) : Prop where
  ex : ∃ ld lm, lams[k]? = some ld ∧ lmd[k]? = some lm ∧ L.names = lm.names ∧ LamT L lm.lps ∧ lm.lps.length = ld.np ∧ lm.names.length = ld.nc ∧ BodyOk M ld.body L lm.lps
/-- its arguments: none, or one -/
def parL : Arguments → List Str → Bool
  | ⟨[], [], none, [], [], none, []⟩, [] => true
  | ⟨[], [⟨a, _, _⟩], none, [], [], none, []⟩, [x] => decide (a = x)
  | _, _ => false
theorem parL_def {ps : Arguments} {lps : List Str} (h : parL ps lps = true) (env : Env) : defaultsOf ps env = ([], []) := by
  unfold parL at h
  split at h
  · rfl
  · rfl
  · cases h
theorem bind1 {q a : Str} {an : Option Expr} {p : Pos} {b : Expr} {sc : Scope} {cl : List (Str × Addr)} {pm cv ctv u : Value} : bindArgs (PySem.W.kla_fn "<lambda>" q ⟨[], [⟨a, an, p⟩], none, [], [], none, []⟩ b sc cl pm cv ctv) ⟨[u], []⟩ = pure [(a, u)] := by
  have h : ([(a, u)] : List (Str × Value)).lookup a = some u := by simp [List.lookup]
  simp [bindArgs, seqItems?, h]
  rfl
theorem parL_bind {ps : Arguments} {lps : List Str} (h : parL ps lps = true) (q : Str) (b : Expr) (sc : Scope) (cl : List (Str × Addr)) (pm cv ctv : Value) (us : List Value) (hl : us.length = lps.length) : bindArgs (PySem.W.kla_fn "<lambda>" q ps b sc cl pm cv ctv) ⟨us, []⟩ = pure (lps.zip us) := by
  unfold parL at h
  split at h
  · match us, hl with
    | [], _ => rfl
  · obtain rfl := of_decide_eq_true h
    match us, hl with
    | [u], _ => exact bind1
  · cases h
def bodyB (M : Nms) (b : LB) (sc : Scope) (N : List Str) (x : Expr) : Bool := match b with
  | .call f args => match x with
    | .Call (.Name x _) (e :: es) [] _ => decide (M.fns[f]? = some x) && (glB sc x && (okName x && ((e :: es).all (fun e => !isStar e) && (rep M.m0 args).a ⟨sc, N, false, true⟩ (e :: es))))
    | _ => false
  | .expr e => (rep M.m0 e).e ⟨sc, N, false, true⟩ x
def lamChk (M : Nms) (ld : Ld) (lm : LmD) (I : Sc) (ps : Arguments) (b : Expr) (sc : Scope) : Bool :=
  decide (sc.kind = .function) && (!sc.isCoroutine && (!sc.isGenerator && (sc.names.all (fun y => decide (y.2 ≠ .cell)) && (lm.lps.all (fun x => decide (sc.names.lookup x = some .local)) && (lm.names.all (fun x => decide (sc.names.lookup x = some .free)) &&
  (sc.names.all (fun y => decide (y.2 ≠ .free) || lm.names.contains y.1) && (decide (lm.names ++ lm.lps).Nodup && (parL ps lm.lps && (decide (lm.lps.length = ld.np) && (decide (lm.names.length = ld.nc) && (bodyB M ld.body sc (lm.names ++ lm.lps) b &&
  (decide (lm.caps.length = lm.names.length) && (List.range lm.caps.length).all fun j => match lm.caps[j]?, lm.names[j]? with
    | some i, some x => decide (I.N[i]? = some x) && decide (I.sc.names.lookup x = some .cell)
    | _, _ => false))))))))))))
def lamBf (M : Nms) (lams : List Ld) (lmd : List LmD) : Nat → Sc → Arguments → Expr → Scope → Bool := fun k I ps b sc => match lams[k]?, lmd[k]? with
  | some ld, some lm => lamChk M ld lm I ps b sc
  | _, _ => false
theorem lamChk_ok {M : Nms} {P : Pg} {lmd : List LmD} {k : Nat} {I : Sc} {ps : Arguments} {b : Expr} {sc : Scope} (h : lamBf M P.lams lmd k I ps b sc = true) :
    ∃ lm, lmd[k]? = some lm ∧ (∀ q, LamP M P.lams lmd k ⟨q, ps, b, sc, lm.names⟩) ∧ (∀ env, defaultsOf ps env = ([], [])) ∧ (∀ y ∈ sc.names, y.2 = .free → y.1 ∈ lm.names) ∧ (∀ x ∈ lm.names, sc.names.lookup x = some .free) ∧ lm.caps.length = lm.names.length ∧
      ∀ (j i : Nat) (x : Str), lm.caps[j]? = some i → lm.names[j]? = some x → I.N[i]? = some x ∧ I.sc.names.lookup x = some .cell := by
  unfold lamBf at h
  split at h
  · rename_i ld lm e1 e2
    unfold lamChk at h
    simp only [Bool.and_eq_true, decide_eq_true_eq, Bool.not_eq_true', List.all_eq_true, Bool.or_eq_true] at h
    obtain ⟨h1, h2, h3, h4, h5, h6, h7, h8, h9, h10, h11, h12, h13, h14⟩ := h
    have fr : ∀ y ∈ sc.names, y.2 = .free → y.1 ∈ lm.names := fun y hy e => by
      rcases h7 y hy with z | z
      · exact absurd e z
      · exact List.contains_iff_mem.mp z
    refine ⟨lm, e2, fun q => ⟨ld, lm, e1, e2, rfl, ⟨h1, h2, h3, h4, h5, h6, fr, h8, fun cl pm cv ctv us hl => parL_bind h9 q b sc cl pm cv ctv us hl⟩, h10, h11, ?_⟩, fun env => parL_def h9 env, fr, h6, h13, fun j i x a1 a2 => ?_⟩
    · unfold bodyB at h12
      unfold BodyOk
      split at h12
      · rename_i f args _
        split at h12
        · rename_i x p e es pos
          simp only [Bool.and_eq_true, decide_eq_true_eq] at h12
          obtain ⟨k1, k2, k3, k4, k5⟩ := h12
          exact ⟨x, p, e, es, pos, rfl, k1, k2, k3, k4, k5⟩
        · cases h12
      · exact h12
    · have := h14 j (List.mem_range.mpr (List.getElem?_eq_some_iff.mp a1).1)
      rw [a1, a2] at this
      simpa using this
  · cases h
/-- a def as it stands in the written part -/
structure DefF (K : PySem.W.Frag) (mg : Str → Option Value) (Γ : Gm) (cs : List (Addr × Addr)) (M : Nms) (f : Nat) (d : Fd) (x : Str) (fa : Addr) (fd : FuncData) (ps : List Str) : Prop where
  ex : ∃ oc od osl name qual params body scope kV doc pm an cdv ct N, fd = PySem.W.fnOf name qual params body scope .none kV doc pm an cdv ct ∧ K.lookup fa = some ⟨oc, od, .func fd, osl⟩ ∧ PySem.W.codeIn K cdv qual = true ∧ FnScope N ps scope ∧ N.length = d.ns ∧
    (rep M d.body).ss ⟨scope, N, true, d.flag⟩ body = true ∧
    (d.flag = true → (∀ (i : Nat) y, N[i]? = some y → scope.names.lookup y = some .cell → i ∈ d.capd) ∧ ∃ c P, cdv = .ref c ∧ (c, P) ∈ cs ∧ (P, qual ++ ".<locals>." ++ "<lambda>") ∈ Γ.tabs ∧ ∀ p ∈ Γ.tabs, p.1 = P → p.2 = qual ++ ".<locals>." ++ "<lambda>")
  np : ps.length = d.np
  bd : Binds K fd ps []
  mg : mg x = some (.ref fa)
  kp : PySem.W.keepIn K (.ref fa) = true
  kw : ∀ n ks perm, (f, n, ks, perm) ∈ M.kws → ∀ us ws : List Value, us.length = n → ws.length = ks.length → bindArgs fd ⟨us, ks.zip ws⟩ = pure (ps.zip (perV (us ++ ws) perm))
/-- a program in the written part -/
structure PgF (prog : Program) (K : PySem.W.Frag) (mg : Str → Option Value) (Γ : Gm) (cs : List (Addr × Addr)) (M : Nms) (P : Pg) (lmd : List LmD) : Prop where
  kk : Γ.K = K
  lam : Γ.lam = LamP M P.lams lmd
  lamB : M.lamB = lamBf M P.lams lmd
  caps : P.caps = lmd.map (·.caps)
  glb : ∀ (i : Nat) x v, M.glb[i]? = some x → P.glob[i]? = some v → ∃ V u, mg x = some u ∧ RelV V u ∧ ∀ φ H W, VR Γ φ H W v V
  bl : ∀ x, x ∈ bltNames → mg x = none
  fns : ∀ (f : Nat) x, M.fns[f]? = some x → ∃ d fa fd ps, P.fns[f]? = some d ∧ DefF K mg Γ cs M f d x fa fd ps
  cls : ∀ (c : Nat) x, M.cls[c]? = some x → mg x = some (.ref (Γ.clsA c))
  exf : ∃ D fI cc, InitF prog K mg D fI cc ∧ PySem.W.typeIn K (.ref fI) = some (.type "function") ∧ ∀ c, ClsF K D (Γ.clsA c) ∧ PySem.W.findIn K (.ref (Γ.clsA c)) "__init__" = some (some (.ref fI))
  exi : ∀ c, ExcC K (Γ.clsA c) ∧ PySem.W.kitOne K (.ref (Γ.clsA c)) (.type "ValueError") = some true
  exs : ∀ c d, PySem.W.kitOne K (.ref (Γ.clsA c)) (.ref (Γ.clsA d)) = some (P.sub c d)
  exm : ∀ c d, PySem.W.exmOne K (.ref (Γ.clsA c)) (.ref (Γ.clsA d)) = some (P.sub c d)
  exn : ∀ d, PySem.W.kitOne K (.type "NoneType") (.ref (Γ.clsA d)) = some false
  exr : ∀ c, ClsR K (Γ.clsA c) (P.cnm c)
theorem evN_len {P : Pg} {f : Nat} {d : Fd} (h : P.fns[f]? = some d) : ∀ (n : Nat) (vs : List PV) (h0 : Hh), vs.length ≠ d.np → evN P n true f vs h0 = .err
  | 0, _, _, _ => rfl
  | n + 1, vs, h0, hn => by
    show (match P.fns[f]? with
      | some d => if vs.length = d.np then runF P (evN P n true) (fun k cs vs h => evN P n false k (cs ++ vs) h) d vs h0 else .err
      | none => .err) = _
    rw [h]
    exact if_neg hn
theorem RE.start {Γ φ H W as Vs} {N : List Str} {k : Nat} (v : VRs Γ φ H W as Vs) : RE Γ φ H W (as.map some ++ List.replicate k none) (L2.start N Vs) := ⟨fun i x e => by
  by_cases hi : i < as.length
  · rw [List.getElem?_append_left (by simpa using hi), List.getElem?_map] at e
    cases q : as[i]? with
    | none => rw [q] at e; cases e
    | some y =>
      rw [q] at e
      cases e
      obtain ⟨V, e1, z⟩ := v.get q
      refine ⟨V, ?_, z⟩
      unfold L2.start
      rw [List.getElem?_append_left (by rw [List.length_map, v.len]; exact hi), List.getElem?_map, e1]
      rfl
  · rw [List.getElem?_append_right (by simpa using hi), List.getElem?_replicate] at e
    split at e <;> cases e⟩
/-- what is said of the defs and of the lambdas, so many calls deep -/
def DefsAt (prog : Program) (w : World) (K : PySem.W.Frag) (mg : Str → Option Value) (base : Heap) (Γ : Gm) (cs : List (Addr × Addr)) (M : Nms) (P : Pg) (n : Nat) : Prop :=
  ∀ (f : Nat) (x : Str) (d : Fd) (fa : Addr) (fd : FuncData) (ps : List Str), P.fns[f]? = some d → DefF K mg Γ cs M f d x fa fd ps → FnE prog w K mg base (n + 5) fa fd ps (spF Γ ps.length (evN P n true f))
def LamsAt (prog : Program) (w : World) (K : PySem.W.Frag) (mg : Str → Option Value) (base : Heap) (Γ : Gm) (M : Nms) (P : Pg) (lmd : List LmD) (n : Nat) : Prop :=
  ∀ (k : Nat) (L : LamI) (ld : Ld), P.lams[k]? = some ld → LamP M P.lams lmd k L → LmE prog w K mg base Γ (n + 5) L ld.np (evN P n false k)
section
variable {prog : Program} {w : World} {K : PySem.W.Frag} {mg : Str → Option Value} {base : Heap} {Γ : Gm} {cs : List (Addr × Addr)} {M : Nms} {P : Pg} {lmd : List LmD} {n : Nat}
/-- what both kinds of frames know -/
theorem fnC_of (G : PgF prog K mg Γ cs M P lmd) (IH : DefsAt prog w K mg base Γ cs M P n) {C : Ct} (h1 : C.X.prog = prog) (h2 : C.X.w = w) (h3 : C.X.K = K) (h4 : C.X.mg = mg) (h5 : C.X.base = base) (h6 : C.Γ = Γ) (hr : Room (n + 5) C.X.A) :
    (∀ (f : Nat) x, M.fns[f]? = some x → ∃ fa, FnC C fa (evN P n true f) x) ∧ ∀ (f : Nat) m ks perm x, (f, m, ks, perm) ∈ M.kws → M.fns[f]? = some x → ∃ fa, FnK C fa (evN P n true f) x m ks perm := by
  subst h1 h2 h3 h4 h5 h6
  refine ⟨fun f x e => ?_, fun f m ks perm x e0 e => ?_⟩
  · obtain ⟨d', fa', fd', ps', e1, D'⟩ := G.fns f x e
    exact ⟨fa', ⟨n + 5, fd', ps', IH f x d' fa' fd' ps' e1 D', fun vs h hn => evN_len e1 n vs h (by rw [← D'.np]; exact hn), hr, D'.bd⟩, D'.mg, D'.kp⟩
  · obtain ⟨d', fa', fd', ps', e1, D'⟩ := G.fns f x e
    exact ⟨fa', ⟨n + 5, fd', ps', IH f x d' fa' fd' ps' e1 D', fun vs h hn => evN_len e1 n vs h (by rw [← D'.np]; exact hn), hr, fun s us ws _ l1 l2 => .of_eq (D'.kw m ks perm e0 us ws l1 l2)⟩, D'.mg, D'.kp⟩
theorem evN_lenL {k : Nat} {ld : Ld} (h : P.lams[k]? = some ld) : ∀ (n : Nat) (vs : List PV) (h0 : Hh), vs.length ≠ ld.nc + ld.np → evN P n false k vs h0 = .err
  | 0, _, _, _ => rfl
  | n + 1, vs, h0, hn => by
    show (match P.lams[k]? with
      | some d => if vs.length = d.nc + d.np then runL P (evN P n true) (fun k cs vs h => evN P n false k (cs ++ vs) h) d vs h0 else .err
      | none => .err) = _
    rw [h]
    exact if_neg hn
theorem clo_of (G : PgF prog K mg Γ cs M P lmd) (IH : LamsAt prog w K mg base Γ M P lmd n) {C : Ct} (h1 : C.X.prog = prog) (h2 : C.X.w = w) (h3 : C.X.K = K) (h4 : C.X.mg = mg) (h5 : C.X.base = base) (h6 : C.Γ = Γ) (hr : Room (n + 5) C.X.A) (k : Nat) :
    LmK C k fun cs vs h => evN P n false k (cs ++ vs) h := by
  subst h1 h2 h3 h4 h5 h6
  cases e : P.lams[k]? with
  | none =>
    have no : ∀ L, ¬ C.Γ.lam k L := fun L hL => by
      rw [G.lam] at hL
      obtain ⟨ld, lm, e1, _⟩ := hL.ex
      rw [e] at e1
      cases e1
    exact ⟨n + 5, 0, evN P n false k, fun L hL => (no L hL).elim, hr, fun _ _ _ => rfl, fun L _ _ _ hL => (no L hL).elim⟩
  | some ld =>
    refine ⟨n + 5, ld.np, evN P n false k, fun L hL => IH k L ld e (by rw [G.lam] at hL; exact hL), hr, fun _ _ _ => rfl, fun L cs vs h hL l1 l2 => evN_lenL e n _ h ?_⟩
    rw [G.lam] at hL
    obtain ⟨ld', lm, e1, e2, e3, _, _, e6, _⟩ := hL.ex
    rw [e] at e1
    cases e1
    rw [List.length_append, l1, e3, e6]
    omega
/-- ALL defs and lambdas keep what the evaluator says, at every depth -/
theorem all_ok (G : PgF prog K mg Γ cs M P lmd) (TB : ∀ p ∈ cs, LamX.TabB base mg p.1 p.2) : ∀ n : Nat, DefsAt prog w K mg base Γ cs M P n ∧ LamsAt prog w K mg base Γ M P lmd n
  | 0 => by
    refine ⟨fun f x d fa fd ps hf D => ⟨fun vs H Q E h => h.1, fun A outer s H args us vs Q E _ _ _ _ _ h => ?_⟩, fun k L ld e hL => ⟨fun A outer s H f c' cl Cv φ h caps args us Vs Q E _ _ _ _ _ _ _ _ _ _ _ p => p.elim⟩⟩
    obtain ⟨_, φ, h0, xs, _, _, p⟩ := h
    exact p.elim
  | n + 1 => by
    obtain ⟨I1, I2⟩ := all_ok G TB n
    constructor
    · intro f x d fa fd ps hf D
      obtain ⟨oc, od, osl, name, qual, params, body, scope, kV, doc, pm, an, cdv, ct, N, rfl, lk, hcd, S, hN, hrep, hfl⟩ := D.ex
      refine fnE_of (k := n + 5) lk hcd S (fun vs H Q E h => h.1) fun A outer s H Vs Q E gd hr hsp => ?_
      obtain ⟨hl, φ, h, vs, hh, vr, p⟩ := hsp
      have p : PoR Γ φ H (runF P (evN P n true) (fun k cs vs h => evN P n false k (cs ++ vs) h) d vs h) Q E := by
        have e : evN P (n + 1) true f vs h = runF P (evN P n true) (fun k cs vs h => evN P n false k (cs ++ vs) h) d vs h := by
          show (match P.fns[f]? with
            | some d => if vs.length = d.np then runF P (evN P n true) (fun k cs vs h => evN P n false k (cs ++ vs) h) d vs h else .err
            | none => .err) = _
          rw [hf]
          exact if_pos (by rw [← D.np, ← vr.len]; exact hl)
        rw [← e]
        exact p
      obtain ⟨φ0, h0, as, hr0, v0, p0⟩ := lcl_ok hh vr p
      let X := cxOf (CX prog w) prog w K mg base N qual scope fa cdv A outer s H E
      let C : Ct := ⟨Γ, X, d.flag, d.capd, E⟩
      have tk : Takes X (fun cls dd _ H => E cls dd H) := takes_of rfl rfl rfl rfl
      have ff := fnC_of (C := C) G I1 rfl rfl rfl rfl rfl rfl hr
      have Y : Sy M ⟨scope, N, true, d.flag⟩ C (cfgOf P (evN P n true) (fun k cs vs h => evN P n false k (cs ++ vs) h) d.flag d.capd) := {
        K := G.kk.symm
        N := rfl
        nd := S.nd
        sc := rfl
        calm := rfl
        un := (show (A.deeper (envOfC qual scope s.heap.objs.size fa cdv)).units + 90 < cLine from by have := hr.un; omega)
        gd := gd
        fn := fun _ _ => rfl
        fb := fun _ => by
          show (if scope.kind.isAnnotationScope then ScopeKind.function else scope.kind) = _
          rw [S.kind]
          rfl
        off := fun z => z
        fl := fun z => ⟨z, rfl⟩
        po := passes_of rfl
        px := passes_call tk fun cls dd σ H z => z.2
        glb := G.glb
        bl := G.bl
        fns := ff.1
        cls := G.cls
        exf := by
          obtain ⟨D0, fI, cc, F1, F2, F3⟩ := G.exf
          exact ⟨D0, fI, cc, 0, F1, hr.mono (by omega), F2, F3⟩
        exi := G.exi
        exs := G.exs
        exn := G.exn
        exr := G.exr
        tk := fun _ => tk.imp fun c d σ H z => z.2
        stk := fun _ => ⟨rfl, rfl, rfl⟩
        fx := fun _ => .inl fun _ => rfl
        clo := fun k => clo_of (C := C) G I2 rfl rfl rfl rfl rfl rfl hr k
        lam := fun hflag k ps b sc e => by
          have hflag : d.flag = true := hflag
          rw [G.lamB] at e
          obtain ⟨lm, e2, e3, e4, e5, e6, e7, e8⟩ := lamChk_ok e
          obtain ⟨g1, c, PP, g2, g3, g4, g5⟩ := hfl hflag
          refine ⟨⟨qual ++ ".<locals>." ++ "<lambda>", ps, b, sc, lm.names⟩, lm.caps, rfl, rfl, rfl, ?_, ?_, hflag, rfl, ⟨c, PP, TB _ g3, g2, g4, g5⟩, e4, e5, e6, e7, fun j i x a1 a2 => ?_⟩
          · show Γ.lam k _
            rw [G.lam]
            exact e3 _
          · show P.caps[k]? = _
            rw [G.caps, List.getElem?_map, e2]
            rfl
          · obtain ⟨b1, b2⟩ := e8 j i x a1 a2
            exact ⟨b1, g1 i x b1 b2, b2⟩
        kws := ff.2
        exm := G.exm }
      refine ⟨_, (sound d.body).ss _ C _ Y body hrep, φ0, as.map some ++ List.replicate (d.ns - d.np) none, h0, ⟨hr0.w Ct.w_on, (RE.start v0).mono Stp.refl Ct.w_on⟩, ?_⟩
      generalize ((ev (cfgOf P (evN P n true) (fun k cs vs h => evN P n false k (cs ++ vs) h) d.flag d.capd) d.body).s (as.map some ++ List.replicate (d.ns - d.np) none) h0) = r at p0 ⊢
      cases hf2 : d.flag with
      | false =>
        have off : ∀ {σ' H'} , ∀ c v, C.W σ' H' c v → Trk H' c v := fun c v z => Ct.w_off (show C.flag = false from hf2) c v z
        rw [hf2] at p0
        cases r with
        | ok fl h1 =>
          cases fl with
          | nx ρ => exact fun φ' H' s' σ' rl => p0 φ' H' s' (rl.hr.w off) .non rfl
          | rt v => exact fun φ' H' s' hr V vr => p0 φ' H' s' hr V vr
          | bk ρ => exact p0.elim
          | ct ρ => exact p0.elim
        | ex c v h1 => exact fun φ' H' d y s' hr e vr => ⟨hf2, p0 φ' H' d y s' hr e vr⟩
        | err => exact p0.elim
      | true =>
        rw [hf2] at p0
        cases r with
        | ok fl h1 =>
          cases fl with
          | nx ρ => exact fun φ' H' s' σ' rl => p0 φ' H' s' rl.hr.kill .non rfl
          | rt v => exact fun φ' H' s' hr V vr => p0 φ' H' s' hr V vr
          | bk ρ => exact p0.elim
          | ct ρ => exact p0.elim
        | ex c v h1 => exact (show False from p0).elim
        | err => exact p0.elim
    · intro k L ld e hL
      obtain ⟨ld', lm, e1, e2, e3, T, e5, e6, bo⟩ := hL.ex
      rw [e] at e1
      cases e1
      rw [← e5]
      refine lm_of (k := n + 5) T fun A outer s s1 H f c' cl Cv Vs φ h caps args Q E gd hr e0 kp v1 hrr v2 hl p => ?_
      intro Z J
      have ll : (caps ++ args).length = ld.nc + ld.np := by
        rw [List.length_append, ← v1.len, ← v2.len, kp.len, hl, e3, e6, e5]
      have p : PoR Γ φ H (runL P (evN P n true) (fun k cs vs h => evN P n false k (cs ++ vs) h) ld (caps ++ args) h) Q E := by
        have q : evN P (n + 1) false k (caps ++ args) h = runL P (evN P n true) (fun k cs vs h => evN P n false k (cs ++ vs) h) ld (caps ++ args) h := by
          show (match P.lams[k]? with
            | some d => if (caps ++ args).length = d.nc + d.np then runL P (evN P n true) (fun k cs vs h => evN P n false k (cs ++ vs) h) d (caps ++ args) h else .err
            | none => .err) = _
          rw [e]
          exact if_pos ll
        rw [← q]
        exact p
      let C : Ct := lmC prog w K mg base Γ L lm.lps A outer s H E cl f c'
      have ff := fnC_of (C := C) G I1 rfl rfl rfl rfl rfl rfl hr
      have nH : ∀ x c, cl.lookup x = some c → H c ≠ none := fun x c ec hn => by
        obtain ⟨i, u, _, _, o, v, z, _⟩ := kp.of ec
        rw [hn] at z
        cases z
      have Y : Sy M.m0 ⟨L.scope, L.names ++ lm.lps, false, true⟩ C (cfgOf P (evN P n true) (fun k cs vs h => evN P n false k (cs ++ vs) h) true []) := {
        K := G.kk.symm
        N := rfl
        nd := T.nd
        sc := rfl
        calm := rfl
        un := (show (A.deeper (lmEnv L cl s.heap.objs.size f c')).units + 90 < cLine from by have := hr.un; omega)
        gd := gd
        fn := fun z => by cases z
        fb := fun z => by cases z
        off := fun z => by cases z
        fl := fun _ => ⟨rfl, rfl⟩
        po := passes_of rfl
        px := fun pins σ H s e s' I z => by
          obtain ⟨a, B, H', cls, d, _, _, _, _, _, _, _, z⟩ := z
          exact z.2.elim
        glb := G.glb
        bl := G.bl
        fns := ff.1
        cls := G.cls
        exf := by
          obtain ⟨D0, fI, cc, F1, F2, F3⟩ := G.exf
          exact ⟨D0, fI, cc, 0, F1, hr.mono (by omega), F2, F3⟩
        exi := G.exi
        exs := G.exs
        exn := G.exn
        exr := G.exr
        tk := fun z => by cases z
        stk := fun z => by cases z
        fx := fun _ => .inr ⟨fun x c ec => by
            cases z : base.get? c with
            | none => exact z
            | some o => exact absurd (e0.bs c o z).2 (nH x c ec), fun x c ec hm => nH x c ec (e0.frf c hm)⟩
        clo := fun k => clo_of (C := C) G I2 rfl rfl rfl rfl rfl rfl hr k
        lam := fun _ k ps b sc e => by cases e
        kws := ff.2
        exm := G.exm }
      unfold runL at p
      unfold BodyOk at bo
      cases hb : ld.body with
      | call g as =>
        rw [hb] at p bo
        obtain ⟨x, p1, ee, es, pos, b1, b2, b3, b4, b5, b6⟩ := bo
        obtain ⟨fa, KF⟩ := ff.1 g x b2
        exact lm_call T e0 kp v1 hrr v2 p J b1 KF gd (gl_of Y b3) b5 ((sound as).a _ C _ Y _ b6) (okN b4).1
      | expr ee =>
        rw [hb] at p bo
        exact lm_expr T e0 kp v1 hrr v2 p J ((sound ee).e _ C _ Y _ bo)
end

end EV
set_option linter.all false
set_option maxRecDepth 100000
set_option maxHeartbeats 2000000
/-! EvL: the law's end, with tables of code objects. -/
namespace EV
open PySem PySem.Spec PyProof.Rows L2

/-- what is tracked where the law begins: the script, the tables -/
def H0 (a : Addr) (o : Obj) (u : HO) (ts : List Addr) : Hp := fun b => if b = a then some (.frz o u) else if b ∈ ts then some (.tbl #[]) else none
theorem law_callE {P : Program} {w : World} {K : PySem.W.Frag} {mg mb : Str → Option Value} {k : Nat} {fa a : Addr} {fd : FuncData} {x : Str} {sp : Sp} {s₁ : Shared} {vs : List Value} {ns : List Int} {cs : List (Addr × Addr)}
    (KX : K.In s₁.heap) (hns : s₁.heap.Ns mainGlobals mg) (hb : s₁.heap.Ns builtinsNs mb) (hbb : ∀ x : Str, x ≠ "__name__" → mb x = bootBuiltins x) (hlim : s₁.heap.NoLimit) (hg : s₁.gens = #[]) (hKL : ∀ a o, K.lookup a = some o → o.cls ≠ .type "list")
    (hT : ∀ p ∈ cs, s₁.heap.get? p.2 = some { cls := .none, data := .fields #[] }) (nT : ∀ p ∈ cs, K.lookup p.2 = none) (hC : ∀ p ∈ cs, PySem.W.CodeHd s₁.heap p.1 p.2)
    (hbm : ∃ (bm : Addr) (ob : Obj), mg "__builtins__" = some (.ref bm) ∧ bm ≠ builtinsNs ∧ s₁.heap.get? bm = some ob ∧ ob.cls = .type "module" ∧ ob.dict = some builtinsNs ∧ ob.data = .plain)
    (ha : s₁.heap.get? a = some { cls := .type "list", data := .seq vs.toArray }) (hi : IntsAre vs ns) (hl : ns.length ≤ sizeLine) (hr : Room k callerA)
    (F : ∀ base : Heap, (∀ p ∈ cs, LamX.TabB base mg p.1 p.2) → FnE P w K mg base k fa fd [x] sp) (hbind : ∀ (s : Shared) (u : Value), K.In s.heap → BindsTo s fd ⟨[u], []⟩ [(x, u)])
    (hsp : ∀ H : Hp, (∃ o, H a = some (.frz o (.lst (ns.map V.int)))) → (∀ p ∈ cs, H p.2 = some (.tbl #[])) → sp [.ref a] H (fun v _ => v = .bl true) fun _ _ _ => False) :
    codeAny (model P w) callerA (.call (.ref fa) ⟨[.ref a], []⟩) (fun r s' => r = .ok (.ret (.bool true)) ∧ OldK s₁.heap s'.heap ∧ s'.os = s₁.os ∧ AllBare s'.gens) s₁ := by
  have rv := vals_ints hi
  obtain ⟨tl, etl⟩ : ∃ tl : List Addr, tl = cs.map (·.2) := ⟨_, rfl⟩
  have tin : ∀ p, p ∈ cs → p.2 ∈ tl := fun p hp => etl ▸ List.mem_map.mpr ⟨p, hp, rfl⟩
  have tof : ∀ b, b ∈ tl → ∃ p ∈ cs, p.2 = b := fun b h => List.mem_map.mp (etl ▸ h)
  have tobj : ∀ b, b ∈ tl → s₁.heap.get? b = some { cls := .none, data := .fields #[] } := fun b h => by
    obtain ⟨p, hp, e⟩ := tof b h
    exact e ▸ hT p hp
  have hk : K.lookup a = none := by
    cases q : K.lookup a with
    | none => rfl
    | some o =>
      have e := KX a o q
      rw [ha] at e
      cases e
      exact absurd rfl (hKL a _ q)
  have nat_ : a ∉ tl := fun h => by
    have e := tobj a h
    rw [ha] at e
    cases e
  obtain ⟨H, hH⟩ : ∃ H : Hp, H = H0 a { cls := .type "list", data := .seq vs.toArray } (.lst (ns.map V.int)) tl := ⟨_, rfl⟩
  have Ha : H a = some (.frz { cls := .type "list", data := .seq vs.toArray } (.lst (ns.map V.int))) := by rw [hH]; exact if_pos rfl
  have Ht : ∀ b, b ∈ tl → H b = some (.tbl #[]) := fun b h => by
    rw [hH]
    exact (if_neg (show ¬ b = a from fun z => nat_ (by rw [← z]; exact h))).trans (if_pos h)
  have Hn : ∀ b, b ≠ a → b ∉ tl → H b = none := fun b h1 h2 => by rw [hH]; exact (if_neg h1).trans (if_neg h2)
  have hok : HOk P w H s₁.heap := fun b u z => by
    by_cases h1 : b = a
    · rw [h1, Ha] at z
      cases z
      rw [h1]
      exact ⟨ha, by rw [List.length_map]; exact hl, vs, _, rv, ha⟩
    · by_cases h2 : b ∈ tl
      · rw [Ht b h2] at z
        cases z
        exact tobj b h2
      · rw [Hn b h1 h2] at z
        cases z
  -- what is neither the script nor a table stands in the base
  have base_of : ∀ {b : Addr} {o : Obj}, s₁.heap.get? b = some o → (∀ us n, o.data ≠ .seq us n) → o.data ≠ .fields #[] → (hidT s₁.heap H).get? b = some o := fun {b o} e n1 n2 => hidT_get e (Hn b (fun z => by
      rw [z, ha] at e
      cases e
      exact n1 _ _ rfl) fun z => by
      rw [tobj b z] at e
      cases e
      exact n2 rfl)
  have nsK : ∀ {b : Addr} {m : Str → Option Value}, s₁.heap.Ns b m → (hidT s₁.heap H).Ns b m := fun {b m} ⟨o, es, ep, e, d, r⟩ =>
    ⟨o, es, ep, base_of e (fun us n z => by rw [d] at z; cases z) (fun z => by rw [d] at z; cases z), d, r⟩
  have hKb : K.In (hidT s₁.heap H) := fun b o e => hidT_get (KX b o e) (Hn b (fun z => by rw [z, hk] at e; cases e) fun z => by
    obtain ⟨p, hp, ep⟩ := tof b z
    rw [← ep, nT p hp] at e
    cases e)
  have hM : L2.Mod K mg (hidT s₁.heap H) := ⟨hKb, nsK hns, ⟨mb, nsK hb, hbb⟩, let ⟨mc, h1, h2⟩ := hlim; ⟨mc, nsK h1, h2⟩⟩
  have dictB : ∀ {b : Addr} {m : Str → Option Value} {o : Obj}, s₁.heap.Ns b m → s₁.heap.get? b = some o → ∃ es ep, o.data = .dict es ep := fun {b m o} ⟨o', es, ep, e, d, _⟩ e2 => by
    rw [e2] at e
    cases e
    exact ⟨es, ep, d⟩
  have TB : ∀ p ∈ cs, LamX.TabB (hidT s₁.heap H) mg p.1 p.2 := fun p hp => by
    refine ⟨?_, ?_, fun z => ?_⟩
    · obtain ⟨o, us, file, tf, flags, tg, inF, text, tt, e1, r1, r2, r3, rest⟩ := hC p hp
      exact ⟨o, us, file, tf, flags, tg, inF, text, tt, base_of e1 (fun vs n z => by rw [r2] at z; cases z) (fun z => by
        rw [r2] at z
        cases z
        simp at r3), r1, r2, r3, rest⟩
    · obtain ⟨bm, ob, b1, b2, b3, b4, b5, b6⟩ := hbm
      refine ⟨bm, ob, b1, b2, fun q => ?_, fun q => ?_, base_of b3 (fun vs n z => by rw [b6] at z; cases z) (fun z => by rw [b6] at z; cases z), b4, b5, b6⟩
      · obtain ⟨es, ep, d⟩ := dictB hns (by rw [← q]; exact b3)
        rw [b6] at d
        cases d
      · have e := hT p hp
        rw [← q, b3] at e
        cases e
        cases b6
    · obtain ⟨es, ep, d⟩ := dictB hns (by rw [z]; exact hT p hp)
      cases d
  have e0 : Env0 P w K mg (hidT s₁.heap H) callerA [] s₁ H := ⟨rfl, hM, fun b o e => of_hidT e, Nat.le_of_eq (hidT_size _ _), trivial, fun b hb => absurd (show b ∈ ([] : List Addr) from hb) (by simp), hok, .of_eq hg⟩
  refine codeAny_mono ((F (hidT s₁.heap H) TB).run callerA [] s₁ H ⟨[.ref a], []⟩ [.ref a] [.ref a] _ _ rfl hr e0 (hbind s₁ (.ref a) KX) (.cons rfl .nil) (hsp H ⟨_, Ha⟩ fun p hp => Ht _ (tin p hp))) fun r s' h => ?_
  cases r with
  | error e =>
    obtain ⟨_, _, _, _, _, _, _, _, _, _, _, _, z⟩ := h
    exact z.elim
  | ok fl =>
    cases fl with
    | next => exact False.elim h
    | brk => exact False.elim h
    | cont => exact False.elim h
    | ret u =>
      obtain ⟨v, H', os, bare, un, hok', r', q⟩ := h
      have q' : v = .bl true := q
      subst q'
      obtain rfl : u = Value.bool true := r'
      have kept : ∀ b o, b ∉ tl → s₁.heap.get? b = some o → s'.heap.get? b = some o := fun b o nb e => by
        by_cases h1 : b = a
        · subst h1
          obtain ⟨e2, _⟩ := hok' b _ (un.frzs b _ _ Ha)
          rw [ha] at e; cases e
          exact e2
        · exact un.keep b o e (Hn b h1 nb) (by intro z; exact absurd (show b ∈ ([] : List Addr) from z) (by simp)) (by simp)
      have grown : ∀ b, b ∈ tl → ∃ more : Array Value, s'.heap.get? b = some { cls := .none, data := .fields more } := fun b hb => by
        obtain ⟨more, z⟩ := un.tbls b #[] (Ht b hb)
        exact ⟨_, hok' b _ z⟩
      refine ⟨rfl, ⟨fun b o e => ?_, fun b o e => ?_⟩, os, bare⟩
      · by_cases hb : b ∈ tl
        · obtain ⟨more, hm⟩ := grown b hb
          obtain ⟨p, hp, ep⟩ := tof b hb
          rw [tobj b hb] at e
          cases e
          exact .inr (.inl ⟨by rw [← ep]; exact ((hC p hp).tab (hT p hp)).isCodeTable, rfl, #[], more, rfl, by rw [Array.empty_append]; exact hm⟩)
        · exact .inl (kept b o hb e)
      · by_cases hb : b ∈ tl
        · obtain ⟨more, hm⟩ := grown b hb
          exact ⟨_, hm⟩
        · exact ⟨o, kept b o hb e⟩
theorem ints_vrs {Γ φ H W} : ∀ ns : List Int, VRs Γ φ H W (ns.map PV.int) (ns.map V.int)
  | [] => rfl
  | n :: ns => VRs.cons' (show VR Γ φ H W (.int n) (.int n) from rfl) (ints_vrs ns)
/-- the same program, its loops given more turns -/
def Pg.at (P : Pg) (wf : Nat) : Pg := { P with wf := wf }
theorem PgF.at {prog : Program} {K : PySem.W.Frag} {mg : Str → Option Value} {Γ : Gm} {cs : List (Addr × Addr)} {M : Nms} {P : Pg} {lmd : List LmD} (G : PgF prog K mg Γ cs M P lmd) (wf : Nat) : PgF prog K mg Γ cs M (P.at wf) lmd :=
  ⟨G.kk, G.lam, G.lamB, G.caps, G.glb, G.bl, G.fns, G.cls, G.exf, G.exi, G.exs, G.exm, G.exn, G.exr⟩
/-- the law, from the evaluator's answer -/
theorem walk_ev {l : PySem.W.OpenLaw} {n : Nat} {q : Program} {loose : List Str} {XP : (Str → Option Value) → Heap → Prop} {YP : World → Heap → Prop} {d : DefRec} {x : Str} {M : Nms} {P : Pg} {lmd : List LmD} {dep f : Nat} (hn : l.most = some n) (hn2 : n ≤ sizeLine) (hdf : d.params.defaults = []) (hr : Room (dep + 5) callerA)
    (F : ∀ (w : World) (mg : Str → Option Value) (fa : Addr) (h : Heap), YP w h → h.Ns mainGlobals mg → mg d.name = some (.ref fa) →
      ∃ (K : PySem.W.Frag) (Γ : Gm) (cs : List (Addr × Addr)) (dd : Fd) (fd : FuncData), K.In h ∧ (∀ a o, K.lookup a = some o → o.cls ≠ .type "list") ∧ (∀ p ∈ cs, h.get? p.2 = some { cls := .none, data := .fields #[] }) ∧ (∀ p ∈ cs, K.lookup p.2 = none) ∧ (∀ p ∈ cs, PySem.W.CodeHd h p.1 p.2) ∧
        (∀ p ∈ Γ.tabs, ∃ c, (c, p.1) ∈ cs) ∧ PgF l.prog K mg Γ cs M P lmd ∧ P.fns[f]? = some dd ∧ DefF K mg Γ cs M f dd d.name fa fd [x])
    (ev : ∀ ns : List Int, ns.length ≤ n → ∃ wf h, evN (P.at wf) dep true f [.ref 0] [.lst true (ns.map PV.int)] = .ok (.bl true) h) :
    PySem.W.WalkO q loose XP YP l.row.toRowW d [] (fun f vs => PySem.call f vs) := by
  refine Att.attach_call hn hdf fun w s₀ s₁ mg mb fa o pm cd doc a vs ns G Y ho hd hcd hmg hobj hints hlen hg => ?_
  obtain ⟨K, Γ, cs, dd, fd, KX, hKL, hT, nT, hC, ht, PF, hf, D⟩ := F w mg fa _ Y G.T.g hmg
  obtain ⟨wf, h1, e⟩ := ev ns hlen
  refine law_callE KX G.T.g G.T.b G.T.builtins G.T.nolimit hg hKL hT nT hC G.T.bmain hobj hints (Nat.le_trans hlen hn2) hr (fun base TB => (all_ok (PF.at wf) TB dep).1 f d.name dd fa fd [x] hf D) (fun s u X => D.bd s [u] X rfl) fun H hH hTb => ?_
  obtain ⟨o1, Ha⟩ := hH
  have sg : ∀ {k : Nat} {z b : HV}, ([z] : Hh)[k]? = some b → k = 0 ∧ b = z := fun {k z b} q => by
    cases k with
    | zero => simp at q; exact ⟨rfl, q.symm⟩
    | succ k => simp at q
  have sa : ∀ {k : Nat} {b : Addr}, ([a] : List Addr)[k]? = some b → k = 0 ∧ b = a := fun {k b} q => by
    cases k with
    | zero => simp at q; exact ⟨rfl, q.symm⟩
    | succ k => simp at q
  refine ⟨rfl, [a], [.lst true (ns.map PV.int)], [.ref 0], ⟨rfl, fun k o b q1 q2 => ?_, fun k m b xs ys q1 q2 q3 q4 => ?_, fun p hp => ?_⟩, ?_, ?_⟩
  · obtain ⟨rfl, rfl⟩ := sg q1
    obtain ⟨_, rfl⟩ := sa q2
    exact ⟨ns.map V.int, ⟨o1, Ha⟩, ints_vrs ns⟩
  · obtain ⟨rfl, z⟩ := sg q3
    cases z
  · obtain ⟨c, hc⟩ := ht p hp
    exact LamX.TabS.nil (hTb _ hc)
  · exact VRs.cons' (by simp only [VR]; exact ⟨a, rfl, rfl⟩) (show VRs Γ [a] H (Trk H) [] [] from rfl)
  · rw [e]
    exact fun φ' H' s' hr V vr => vr
end EV
set_option linter.all false
set_option maxRecDepth 100000
set_option maxHeartbeats 2000000
/-! EvM: the head's facts, looked at in the written part. -/
namespace EV
open PySem PySem.Spec PyProof.Rows L2

/-! ### the written part: what the module's names reach -/
def refsC (o : Obj) : List Addr := He.refsO o ++ match o.data with
  | .func fd => fd.closure.map (·.2)
  | _ => []
def growC (g : Addr → Option Obj) (as : List Addr) : List Addr := (as ++ as.flatMap fun a => match g a with
  | some o => refsC o
  | none => []).eraseDups
def asC (g : Addr → Option Obj) : Nat → List Addr
  | 0 => [mainGlobals, cStatics]
  | n + 1 => growC g (asC g n)
/-- lists and tables of code objects are none of the written part -/
def kpO (o : Obj) : Bool := !(o.cls == .type "list") && !(o.cls == .none && match o.data with
  | .fields _ => true
  | _ => false)
def frC (g : Addr → Option Obj) (n : Nat) : PySem.W.Frag := (He.frG g (asC g n)).filter fun p => kpO p.2
theorem frC_lookup {g : Addr → Option Obj} {a : Addr} {o : Obj} : ∀ {K : PySem.W.Frag}, (K.filter fun p => kpO p.2).lookup a = some o → (∀ b u, (b, u) ∈ K → g b = some u) → g a = some o ∧ kpO o = true
  | [], e, _ => nomatch (show (none : Option Obj) = some o from e)
  | (b, u) :: r, e, h => by
    have hr : ∀ b u, (b, u) ∈ r → g b = some u := fun c v m => h c v (List.mem_cons_of_mem _ m)
    by_cases hc : kpO u = true
    · have ef : ((b, u) :: r).filter (fun p => kpO p.2) = (b, u) :: r.filter fun p => kpO p.2 := List.filter_cons_of_pos hc
      rw [ef] at e
      have e2 : (match a == b with | true => some u | false => (r.filter fun p => kpO p.2).lookup a) = some o := e
      cases q : (a == b) with
      | true =>
        rw [q] at e2
        cases e2
        have : a = b := eq_of_beq q
        subst this
        exact ⟨h a _ List.mem_cons_self, hc⟩
      | false =>
        rw [q] at e2
        exact frC_lookup e2 hr
    · have ef : ((b, u) :: r).filter (fun p => kpO p.2) = r.filter fun p => kpO p.2 := List.filter_cons_of_neg hc
      rw [ef] at e
      exact frC_lookup e hr
theorem frG_mem {g : Addr → Option Obj} {as : List Addr} {b : Addr} {u : Obj} (h : (b, u) ∈ He.frG g as) : g b = some u := by
  unfold He.frG at h
  obtain ⟨c, hc, e⟩ := List.mem_filterMap.mp h
  cases q : g c with
  | none => rw [q] at e; cases e
  | some o =>
    rw [q] at e
    cases e
    exact q
theorem frC_in {h : Heap} {n : Nat} : (frC h.get? n).In h := fun a o e => (frC_lookup (g := h.get?) e fun _ _ m => frG_mem m).1
theorem frC_nl {g : Addr → Option Obj} {n : Nat} : ∀ a o, (frC g n).lookup a = some o → o.cls ≠ .type "list" := fun a o e z => by
  have := (frC_lookup (g := g) e fun _ _ m => frG_mem m).2
  unfold kpO at this
  rw [z] at this
  simp at this

/-! ### checks -/
def oexB (K : PySem.W.Frag) (C : Addr) : Bool := (match K.lookup C with
    | some ⟨c, _, .cls cd, sl⟩ => c == .type "type" && ((match cd.mro with
      | .ref C' :: bm => C' == C && PySem.HandSPX.refsVE bm
      | _ => false) && (cd.hasDict && (!cd.hasDel && (match sl.toList with
      | [_, _, _, _, some (.builtin n), _] => n == "ValueError.__new__"
      | _ => false))))
    | _ => false) && (He.eqO (PySem.W.findIn K (.ref C) "__setattr__") (some (some (.builtin "object.__setattr__"))) && (decide (PySem.W.subIn K (.ref C) (.type "BaseException") = some true) &&
    (decide (PySem.W.typeIn K (.ref C) = some (.type "type")) && PySem.W.keepIn K (.ref C))))
theorem oexB_ok {K : PySem.W.Frag} {C : Addr} (h : oexB K C = true) : OexC K C := by
  unfold oexB at h
  simp only [Bool.and_eq_true, decide_eq_true_eq] at h
  obtain ⟨h1, h2, h3, h4, h5⟩ := h
  refine ⟨?_, He.eqO_ok h2, h3, h4, h5⟩
  split at h1
  · rename_i c dd cd sl lk
    simp only [Bool.and_eq_true, Bool.not_eq_true'] at h1
    obtain ⟨a1, a2, a3, a4, a5⟩ := h1
    obtain ⟨nm, bs, mro, ns, qn, hd, sn, sub, ab, col, del⟩ := cd
    dsimp only at a2 a3 a4
    subst a3 a4
    split at a2
    · rename_i C' bm
      simp only [Bool.and_eq_true] at a2
      split at a5
      · rename_i k0 k1 k2 k3 n k5 es
        obtain rfl := eq_of_beq a5
        obtain rfl : C' = C := eq_of_beq a2.1
        obtain rfl : c = .type "type" := eq_of_beq a1
        have es' : sl = #[k0, k1, k2, k3, some (.builtin "ValueError.__new__"), k5] := by
          obtain ⟨l⟩ := sl
          simp only at es
          rw [es]
        subst es'
        exact ⟨nm, qn, ns, bs, bm, sn, sub, ab, col, dd, k0, k1, k2, k3, k5, lk, a2.2⟩
      · cases a5
    · cases a2
  · cases h1
def clsFB (K : PySem.W.Frag) (D fI C : Addr) : Bool := oexB K C && (decide (PySem.W.mroIn K C (.ref D) = some true) && (decide (PySem.W.ks_superIn K C D "__init__" = some (some (.builtin "ValueError.__init__"))) &&
  (decide (PySem.W.subIn K (.ref C) (.type "ValueError") = some true) && (He.eqO (PySem.W.findIn K (.ref C) "value") (some none) && He.eqO (PySem.W.findIn K (.ref C) "__init__") (some (some (.ref fI)))))))
theorem clsFB_ok {K : PySem.W.Frag} {D fI C : Addr} (h : clsFB K D fI C = true) : ClsF K D C ∧ PySem.W.findIn K (.ref C) "__init__" = some (some (.ref fI)) := by
  unfold clsFB at h
  simp only [Bool.and_eq_true, decide_eq_true_eq] at h
  obtain ⟨h1, h2, h3, h4, h5, h6⟩ := h
  exact ⟨⟨oexB_ok h1, h2, h3, h4, He.eqO_ok h5⟩, He.eqO_ok h6⟩
def clsIB (K : PySem.W.Frag) (C : Addr) : Bool := He.eqO (PySem.W.findIn K (.ref C) "__getattribute__") (some (some (.builtin "BaseException.__getattribute__"))) && (He.eqO (PySem.W.findIn K (.ref C) "__getattr__") (some none) &&
  (decide (PySem.W.subIn K (.ref C) (.type "BaseException") = some true) && (PySem.W.hasDictIn K C && (He.eqO (PySem.W.findIn K (.ref C) "__class__") (some (some (.builtin "object.__class__"))) &&
  (He.eqO (PySem.W.specialIn K (.builtin "object.__class__") "__get__") (some (some (.builtin "getset_descriptor.__get__"))) && (decide (PySem.W.takesIn K (.builtin "object.__class__") = some true) && (decide (PySem.W.mroIn K C (.type "object") = some true) &&
  (decide (PySem.W.kitOne K (.ref C) (.type "ValueError") = some true) && decide (PySem.W.kitOne K (.type "NoneType") (.ref C) = some false)))))))))
theorem clsIB_ok {K : PySem.W.Frag} {C : Addr} (h : clsIB K C = true) : (ExcC K C ∧ PySem.W.kitOne K (.ref C) (.type "ValueError") = some true) ∧ PySem.W.kitOne K (.type "NoneType") (.ref C) = some false := by
  unfold clsIB at h
  simp only [Bool.and_eq_true, decide_eq_true_eq] at h
  obtain ⟨h1, h2, h3, h4, h5, h6, h7, h8, h9, h10⟩ := h
  exact ⟨⟨⟨He.eqO_ok h1, He.eqO_ok h2, h3, h4, He.eqO_ok h5, He.eqO_ok h6, h7, h8⟩, h9⟩, h10⟩
def clsRB (K : PySem.W.Frag) (C : Addr) (n : Str) : Bool := He.eqO (PySem.W.findIn K (.ref C) "__repr__") (some (some (.builtin "BaseException.__repr__"))) && (decide (PySem.W.subIn K (.ref C) (.type "BaseException") = some true) && match PySem.W.clsIn K C with
  | some cd => decide (excReprHead cd.name.toString = n)
  | none => false)
theorem clsRB_ok {K : PySem.W.Frag} {C : Addr} {n : Str} (h : clsRB K C n = true) : ClsR K C n := by
  unfold clsRB at h
  simp only [Bool.and_eq_true, decide_eq_true_eq] at h
  obtain ⟨h1, h2, h3⟩ := h
  refine ⟨He.eqO_ok h1, h2, ?_⟩
  split at h3
  · rename_i cd e
    exact ⟨cd, e, of_decide_eq_true h3⟩
  · cases h3
/-- the __init__ -/
abbrev FnI : Type := Option (Str × Arguments × FuncBody × Scope × Addr × List Str × Value × Value × Addr)
def fIA (K : PySem.W.Frag) (arm : Str) : Addr := He.ma K (He.ga K arm) "__init__"
def fnI (K : PySem.W.Frag) (arm : Str) : FnI := match K.lookup (fIA K arm) with
  | some ⟨_, _, .func fd, _⟩ => some (fd.name, fd.params, fd.body, fd.scope, fd.globals, fd.closure.map (·.1), fd.defaults, fd.kwdefaults, fd.builtins)
  | _ => none
def valI : FnI := some ("__init__", initArgs, .stmts initBody, initScope, mainGlobals, ["__class__"], .none, .none, builtinsNs)
def initB (K : PySem.W.Frag) (arm : Str) (file : Str) : Bool := (match K.lookup (fIA K arm) with
    | some ⟨_, _, .func fd, _⟩ => PySem.W.codeIn K fd.code fd.qualname && ((match fd.code with
      | .ref c => (match K.lookup c with
        | some ⟨_, _, .fields vs, _⟩ => (match (vs[2]? : Option Value) with
          | some (Value.str f _) => decide (file = f)
          | _ => false)
        | _ => false)
      | _ => false) && (match fd.closure with
      | [(_, c)] => (match K.lookup c with
        | some ⟨_, _, .cell (some (.ref d)), _⟩ => d == He.ga K arm
        | _ => false)
      | _ => false))
    | _ => false) && ((PySem.W.clsIn K (He.ga K arm)).isSome && (He.eqO (PySem.W.nsIn K mainGlobals "super") (some none) && (He.eqO (PySem.W.nsIn K cStatics "thirdparty.any") (some none) && decide (PySem.W.typeIn K (.ref (fIA K arm)) = some (.type "function")))))
theorem initB_ok {prog : Program} {K : PySem.W.Frag} {arm file : Str} {h : Heap} {mg : Str → Option Value} (X : K.In h) (G : h.Ns mainGlobals mg) (e : fnI K arm = valI) (b : initB K arm file = true) (hf : (prog.main.file : Str) = file) (ht : (prog.main.scope.names.lookup ("super" : Str)).isSome = false) :
    ∃ cc, InitF prog K mg (He.ga K arm) (fIA K arm) cc ∧ PySem.W.typeIn K (.ref (fIA K arm)) = some (.type "function") := by
  unfold initB at b
  simp only [Bool.and_eq_true, decide_eq_true_eq] at b
  obtain ⟨b1, b2, b3, b4, b5⟩ := b
  unfold fnI at e
  split at b1
  · rename_i oc od fd osl lk
    rw [lk] at e
    obtain ⟨n1, n2, n3, n4, n5, n6, n7, n8, n9, n10, n11, n12, n13, n14, n15⟩ := fd
    simp only [valI, Option.some.injEq, Prod.mk.injEq] at e
    simp only [Bool.and_eq_true] at b1
    obtain ⟨c1, c2, c3⟩ := b1
    split at c3
    · rename_i nm c ec
      obtain ⟨h1, h2, h3, h4, h5, h6, h7, h8, h9⟩ := e
      split at c2
      · rename_i cda ecd
        split at c2
        · rename_i ccl cdd vs ccs lkc
          split at c2
          · rename_i f tf ev
            split at c3
            · rename_i cl cld d csl lkd
              obtain rfl : d = He.ga K arm := eq_of_beq c3
              obtain rfl : file = f := of_decide_eq_true c2
              simp only [List.map_cons, List.map_nil, List.cons.injEq, and_true] at h6
              subst h1 h2 h3 h4 h5 h6 h7 h8 h9
              obtain ⟨cd, hcd⟩ := Option.isSome_iff_exists.mp b2
              exact ⟨ec, ⟨⟨oc, od, osl, n2, n10, n11, n12, n14, ecd, lk, c1, ccl, cdd, vs, ccs, file, tf, lkc, ev, by rw [hf]; exact beq_self_eq_true _⟩, ⟨cl, cld, csl, lkd⟩, ⟨cd, hcd⟩, ht, PySem.W.mg_none_of X G (He.eqO_ok b3), He.eqO_ok b4⟩, b5⟩
            · cases c3
          · cases c2
        · cases c2
      · cases c2
    · cases c3
  · cases b1

/-! ### all of it -/
/-- where class c's object stands -/
def clsAt (K : PySem.W.Frag) (M : Nms) (c : Nat) : Addr := He.ga K (M.cls.getD c (M.cls.headD ""))
/-- where the code object of a def stands, and its table -/
def cdA (K : PySem.W.Frag) (x : Str) : Addr := match K.lookup (He.ga K x) with
  | some ⟨_, _, .func fd, _⟩ => (match fd.code with
    | .ref c => c
    | _ => 0)
  | _ => 0
def tbA (K : PySem.W.Frag) (x : Str) : Addr := match K.lookup (cdA K x) with
  | some ⟨_, _, .fields vs, _⟩ => (match (vs[11]? : Option Value) with
    | some (.ref P) => P
    | _ => 0)
  | _ => 0
def csOf (K : PySem.W.Frag) (fl : List Str) : List (Addr × Addr) := fl.map fun x => (cdA K x, tbA K x)
def lamQ (x : Str) : Str := x ++ ".<locals>." ++ "<lambda>"
def gmOf (K : PySem.W.Frag) (M : Nms) (P : Pg) (lmd : List LmD) (fl : List Str) : Gm := ⟨K, clsAt K M, LamP M P.lams lmd, fl.map fun x => (tbA K x, lamQ x)⟩
def nrm (n c : Nat) : Nat := if c < n then c else 0
/-- the classes: the first one above all others -/
def subP (n : Nat) : Nat → Nat → Bool := fun c d => nrm n c == nrm n d || nrm n d == 0
def cnmP (M : Nms) : Nat → Str := fun c => M.cls.getD c (M.cls.headD "")
def tupB : List Value → List PV → Bool
  | [], [] => true
  | .int j _ :: r, .int i :: s => decide (i = j) && tupB r s
  | _, _ => false
/-- a global's value -/
def glbV (K : PySem.W.Frag) (x : Str) (v : PV) : Bool := match PySem.W.nsIn K mainGlobals x, v with
  | some (some (.int j _)), .int i => decide (i = j)
  | some (some (.str t _)), .str s => decide (s = t)
  | some (some (.ref p)), .tup vs => (match K.lookup p with
    | some ⟨c, _, .seq its _, _⟩ => c == .type "tuple" && (decide (its.size ≤ sizeLine) && tupB its.toList vs)
    | _ => false)
  | _, _ => false
theorem tupB_ok {Γ φ H W} : ∀ {us : List Value} {vs : List PV}, tupB us vs = true → ∃ Vs, VRs Γ φ H W vs Vs ∧ Vals Vs us
  | [], [], _ => ⟨[], rfl, .nil⟩
  | .int j t :: r, .int i :: s, h => by
    unfold tupB at h
    simp only [Bool.and_eq_true, decide_eq_true_eq] at h
    obtain ⟨Vs, h1, h2⟩ := tupB_ok (Γ := Γ) (φ := φ) (H := H) (W := W) h.2
    exact ⟨.int i :: Vs, VRs.cons' (show VR Γ φ H W (.int i) (.int i) from rfl) h1, .cons ⟨t, by rw [h.1]⟩ h2⟩
theorem vals_uniq : ∀ {vs ws : List V} {us : List Value}, Vals vs us → Vals ws us → vs = ws
  | _, _, _, .nil, .nil => rfl
  | _, _, _, .cons a b, .cons c d => by rw [relV_inj a c, vals_uniq b d]
theorem glbV_ok {Γ : Gm} {h : Heap} {mg : Str → Option Value} {x : Str} {v : PV} (X : Γ.K.In h) (G : h.Ns mainGlobals mg) (e : glbV Γ.K x v = true) : ∃ V u, mg x = some u ∧ L2.RelV V u ∧ ∀ φ H W, VR Γ φ H W v V := by
  unfold glbV at e
  split at e
  · rename_i j t i en
    obtain rfl := of_decide_eq_true e
    exact ⟨.int i, _, PySem.W.mg_of X G en, ⟨t, rfl⟩, fun _ _ _ => rfl⟩
  · rename_i t tk s en
    obtain rfl := of_decide_eq_true e
    exact ⟨.str s, _, PySem.W.mg_of X G en, ⟨tk, rfl⟩, fun _ _ _ => rfl⟩
  · rename_i p vs en
    split at e
    · rename_i c od its n sl lk
      simp only [Bool.and_eq_true, decide_eq_true_eq] at e
      obtain ⟨e1, e2, e3⟩ := e
      obtain rfl := eq_of_beq e1
      refine ⟨.ref p, _, PySem.W.mg_of X G en, rfl, fun φ H W => ?_⟩
      obtain ⟨Vs, v1, v2⟩ := tupB_ok (Γ := Γ) (φ := φ) (H := H) (W := W) e3
      simp only [VR]
      exact ⟨p, Vs, rfl, .inr ⟨_, its, n, lk, rfl, rfl, e2, v2⟩, v1⟩
    · cases e
  · cases e
def chk (M : Nms) (gl : List PV) (fl : List Str) (file : Str) (K : PySem.W.Frag) : Bool :=
  (M.fns.all fun x => He.eqO (PySem.W.nsIn K mainGlobals x) (some (some (.ref (He.ga K x)))) && PySem.W.keepIn K (.ref (He.ga K x))) &&
  ((M.cls.all fun x => He.eqO (PySem.W.nsIn K mainGlobals x) (some (some (.ref (He.ga K x))))) &&
  ((bltNames.all fun x => He.eqO (PySem.W.nsIn K mainGlobals x) (some none)) &&
  (initB K (M.cls.headD "") file &&
  ((M.cls.all fun x => clsFB K (He.ga K (M.cls.headD "")) (fIA K (M.cls.headD "")) (He.ga K x) && (clsIB K (He.ga K x) && clsRB K (He.ga K x) x)) &&
  (((List.range M.cls.length).all fun c => (List.range M.cls.length).all fun d => decide (PySem.W.kitOne K (.ref (clsAt K M c)) (.ref (clsAt K M d)) = some (subP M.cls.length c d)) && decide (PySem.W.exmOne K (.ref (clsAt K M c)) (.ref (clsAt K M d)) = some (subP M.cls.length c d))) &&
  (((M.glb.zip gl).all fun p => glbV K p.1 p.2) &&
  (fl.all fun x => (match K.lookup (He.ga K x) with
    | some ⟨_, _, .func fd, _⟩ => (match fd.code with
      | .ref _ => true
      | _ => false)
    | _ => false) && (PySem.W.codeHdIn K (cdA K x) (tbA K x) && ((K.lookup (tbA K x)).isNone && fl.all fun y => decide (tbA K x ≠ tbA K y) || decide (x = y))))))))))
/-- a table that is still empty -/
def tabB (g : Addr → Option Obj) (a : Addr) : Bool := match g a with
  | some ⟨.none, none, .fields vs, sl⟩ => vs.isEmpty && sl.isEmpty
  | _ => false
theorem tabB_ok {g : Addr → Option Obj} {a : Addr} (h : tabB g a = true) : g a = some { cls := .none, data := .fields #[] } := by
  unfold tabB at h
  split at h
  · rename_i vs sl e
    simp only [Bool.and_eq_true, Array.isEmpty_iff] at h
    obtain ⟨rfl, rfl⟩ := h
    exact e
  · cases h
theorem clsAt_mem {K : PySem.W.Frag} {M : Nms} (h : M.cls ≠ []) (c : Nat) : ∃ x, x ∈ M.cls ∧ clsAt K M c = He.ga K x ∧ cnmP M c = x := by
  unfold clsAt cnmP
  cases e : M.cls[c]? with
  | some x =>
    have : M.cls.getD c (M.cls.headD "") = x := by rw [List.getD_eq_getElem?_getD, e]; rfl
    exact ⟨x, List.mem_of_getElem? e, by rw [this], this⟩
  | none =>
    have : M.cls.getD c (M.cls.headD "") = M.cls.headD "" := by rw [List.getD_eq_getElem?_getD, e]; rfl
    refine ⟨M.cls.headD "", ?_, by rw [this], this⟩
    cases q : M.cls with
    | nil => exact absurd q h
    | cons a l => exact List.mem_cons_self
theorem clsAt_nrm {K : PySem.W.Frag} {M : Nms} (c : Nat) : clsAt K M c = clsAt K M (nrm M.cls.length c) := by
  unfold nrm
  split
  · rfl
  · rename_i h
    unfold clsAt
    rw [List.getD_eq_getElem?_getD, List.getD_eq_getElem?_getD, List.getElem?_eq_none (by omega)]
    cases M.cls <;> rfl
/-- the calls by names of def f: they bind -/
def KwAll (f : Nat) (D : He.FnD) (ps : List Str) : List (Nat × Nat × List Str × List Nat) → Prop
  | [] => True
  | (g, n, ks, perm) :: r => (g = f → ∀ kV doc pm an cdv ct (us ws : List Value), us.length = n → ws.length = ks.length → bindArgs (PySem.W.fnOf D.name D.qual D.params D.body D.scope .none kV doc pm an cdv ct) ⟨us, ks.zip ws⟩ = pure (ps.zip (perV (us ++ ws) perm))) ∧ KwAll f D ps r
theorem KwAll.get {f : Nat} {D : He.FnD} {ps : List Str} : ∀ {l : List (Nat × Nat × List Str × List Nat)}, KwAll f D ps l → ∀ {n ks perm}, (f, n, ks, perm) ∈ l → ∀ kV doc pm an cdv ct (us ws : List Value), us.length = n → ws.length = ks.length → bindArgs (PySem.W.fnOf D.name D.qual D.params D.body D.scope .none kV doc pm an cdv ct) ⟨us, ks.zip ws⟩ = pure (ps.zip (perV (us ++ ws) perm))
  | (g, n', ks', perm') :: r, h, n, ks, perm, hm => by
    rcases List.mem_cons.mp hm with e | hm
    · cases e
      exact h.1 rfl
    · exact KwAll.get h.2 hm
def capB (N : List Str) (sc : Scope) (capd : List Nat) : Bool := (List.range N.length).all fun i => match N[i]? with
  | some y => decide (sc.names.lookup y ≠ some .cell) || capd.contains i
  | none => true
theorem capB_ok {N : List Str} {sc : Scope} {capd : List Nat} (h : capB N sc capd = true) : ∀ (i : Nat) y, N[i]? = some y → sc.names.lookup y = some .cell → i ∈ capd := fun i y e k => by
  unfold capB at h
  have := List.all_eq_true.mp h i (List.mem_range.mpr (List.getElem?_eq_some_iff.mp e).1)
  rw [e] at this
  simp only [Bool.or_eq_true, decide_eq_true_eq] at this
  rcases this with z | z
  · exact absurd k z
  · exact List.contains_iff_mem.mp z
/-- one def of the text, looked at without the heap -/
structure DefT (M : Nms) (fl : List Str) (f : Nat) (x : Str) (d : Fd) (D : He.FnD) (ps : List Str) : Prop where
  at_ : D.at_ = (x, none)
  sc : ∃ N, FnScope N ps D.scope ∧ N.length = d.ns ∧ (rep M d.body).ss ⟨D.scope, N, true, d.flag⟩ D.body = true ∧ (d.flag = true → capB N D.scope d.capd = true)
  np : ps.length = d.np
  bd : ∀ kV doc pm an cdv ct (us : List Value), us.length = ps.length → bindArgs (PySem.W.fnOf D.name D.qual D.params D.body D.scope .none kV doc pm an cdv ct) ⟨us, []⟩ = pure (ps.zip us)
  kw : KwAll f D ps M.kws
  fl : d.flag = true → x ∈ fl ∧ D.qual = x
theorem defF_of {M : Nms} {P : Pg} {lmd : List LmD} {fl : List Str} {f : Nat} {x : Str} {d : Fd} {D : He.FnD} {ps : List Str} {K : PySem.W.Frag} {h : Heap} {mg : Str → Option Value} (T : DefT M fl f x d D ps) (X : K.In h) (G : h.Ns mainGlobals mg) (e : He.fnObs K D.at_ = D.val) (c : (He.Fa.code D.at_ D.qual).ok K = true)
    (g : He.eqO (PySem.W.nsIn K mainGlobals x) (some (some (.ref (He.ga K x)))) = true) (kp : PySem.W.keepIn K (.ref (He.ga K x)) = true)
    (hf : ∀ x ∈ fl, (match K.lookup (He.ga K x) with
      | some ⟨_, _, .func fd, _⟩ => (match fd.code with
        | .ref _ => true
        | _ => false)
      | _ => false) = true ∧ ∀ y ∈ fl, tbA K x = tbA K y → x = y) : ∃ fd, DefF K mg (gmOf K M P lmd fl) (csOf K fl) M f d x (He.ga K x) fd ps := by
  obtain ⟨oc, od, osl, kV, doc, pm, an, cdv, ct, lk, hcd⟩ := He.fn_ok e c
  obtain ⟨N, S, hN, hrep, hcap⟩ := T.sc
  have ea : He.fAd K D.at_ = He.ga K x := by rw [T.at_]; rfl
  rw [ea] at lk
  refine ⟨_, ⟨oc, od, osl, D.name, D.qual, D.params, D.body, D.scope, kV, doc, pm, an, cdv, ct, N, rfl, lk, hcd, S, hN, hrep, fun hd => ⟨capB_ok (hcap hd), ?_⟩⟩, T.np, Binds.all fun us hl => T.bd kV doc pm an cdv ct us hl, PySem.W.mg_of X G (He.eqO_ok g), kp, fun n ks perm hm us ws l1 l2 => T.kw.get hm kV doc pm an cdv ct us ws l1 l2⟩
  obtain ⟨hx, hq⟩ := T.fl hd
  obtain ⟨h1, h2⟩ := hf x hx
  have ec : cdv = .ref (cdA K x) := by
    unfold cdA
    rw [lk] at h1 ⊢
    dsimp only at h1 ⊢
    split at h1
    · rfl
    · cases h1
  refine ⟨cdA K x, tbA K x, ec, List.mem_map.mpr ⟨x, hx, rfl⟩, ?_, fun p hp e1 => ?_⟩
  · rw [hq]
    exact List.mem_map.mpr ⟨x, hx, rfl⟩
  · obtain ⟨y, hy, rfl⟩ := List.mem_map.mp hp
    have := h2 y hy e1.symm
    subst this
    rw [hq]
    rfl
/-- the head's Hook -/
abbrev AlE : Type := Bool × (List He.FnV × FnI)
def obsV (M : Nms) (gl : List PV) (fl : List Str) (file : Str) (fn : List He.FnD) (g : Addr → Option Obj) (K : PySem.W.Frag) : AlE := ((chk M gl fl file K && fn.all fun d => (He.Fa.code d.at_ d.qual).ok K) && (csOf K fl).all (fun p => tabB g p.2), (fn.map fun d => He.fnObs K d.at_, fnI K (M.cls.headD "")))
def valV (fn : List He.FnD) : AlE := (true, (fn.map He.FnD.val, valI))
/-- what the head leaves -/
structure Left (M : Nms) (gl : List PV) (fl : List Str) (file : Str) (fn : List He.FnD) (h : Heap) (K : PySem.W.Frag) : Prop where
  kin : K.In h
  nl : ∀ a o, K.lookup a = some o → o.cls ≠ .type "list"
  chk : (chk M gl fl file K && fn.all fun d => (He.Fa.code d.at_ d.qual).ok K) = true
  fns : fn.map (fun d => He.fnObs K d.at_) = fn.map He.FnD.val
  ini : fnI K (M.cls.headD "") = valI
  tab : ∀ p ∈ csOf K fl, h.get? p.2 = some { cls := .none, data := .fields #[] }
def hookV (n : Nat) (M : Nms) (gl : List PV) (fl : List Str) (file : Str) (fn : List He.FnD) : PySem.W.Hook where
  α := AlE
  obs := fun s => obsV M gl fl file fn s.heap.get? (frC s.heap.get? n)
  val := fun _ => valV fn
  says := fun _ h => ∃ K : PySem.W.Frag, Left M gl fl file fn h K
  of := fun _ s e => by
    have c1 := congrArg (fun z : AlE => z.1) e
    have c1 : ((EV.chk M gl fl file (frC s.heap.get? n) && fn.all fun d => (He.Fa.code d.at_ d.qual).ok (frC s.heap.get? n)) && (csOf (frC s.heap.get? n) fl).all (fun p => tabB s.heap.get? p.2)) = true := c1
    rw [Bool.and_eq_true, List.all_eq_true] at c1
    exact ⟨_, frC_in, frC_nl, c1.1, congrArg (fun z : AlE => z.2.1) e, congrArg (fun z : AlE => z.2.2) e, fun p hp => tabB_ok (c1.2 p hp)⟩
  keeps := fun _ _ _ ⟨K, L⟩ k => ⟨K, PySem.W.Frag.In.keeps L.kin k, L.nl, L.chk, L.fns, L.ini, fun p hp => k _ _ (L.tab p hp)⟩
theorem pgF_of {Q : Nat → List Str → Prop} {prog : Program} {M : Nms} {P : Pg} {lmd : List LmD} {fl : List Str} {file : Str} {fn : List He.FnD} {K : PySem.W.Frag} {h : Heap} {mg : Str → Option Value} (L : Left M P.glob fl file fn h K) (G : h.Ns mainGlobals mg) (hM : M.cls ≠ []) (hlB : M.lamB = lamBf M P.lams lmd) (hcp : P.caps = lmd.map (·.caps))
    (hs : P.sub = subP M.cls.length) (hc : P.cnm = cnmP M) (hf : (prog.main.file : Str) = file) (ht : (prog.main.scope.names.lookup ("super" : Str)).isSome = false)
    (T : ∀ (f : Nat) x, M.fns[f]? = some x → ∃ d D ps, P.fns[f]? = some d ∧ fn[f]? = some D ∧ DefT M fl f x d D ps ∧ Q f ps) : PgF prog K mg (gmOf K M P lmd fl) (csOf K fl) M P lmd ∧
    (∀ (f : Nat) x, M.fns[f]? = some x → ∃ d D ps fd, P.fns[f]? = some d ∧ fn[f]? = some D ∧ (DefT M fl f x d D ps ∧ Q f ps) ∧ DefF K mg (gmOf K M P lmd fl) (csOf K fl) M f d x (He.ga K x) fd ps) ∧
    (∀ p ∈ csOf K fl, K.lookup p.2 = none) ∧ (∀ p ∈ csOf K fl, PySem.W.CodeHd h p.1 p.2) ∧ ∀ p ∈ (gmOf K M P lmd fl).tabs, ∃ c, (c, p.1) ∈ csOf K fl := by
  have X := L.kin
  have c1 := L.chk
  have c2 := L.fns
  unfold chk at c1
  simp only [Bool.and_eq_true, List.all_eq_true] at c1
  obtain ⟨⟨k1, k2, k3, k4, k5, k6, k8, k9⟩, k7⟩ := c1
  obtain ⟨cc, IF, IT⟩ := initB_ok X G L.ini k4 hf ht
  have hfl : ∀ x ∈ fl, (match K.lookup (He.ga K x) with
      | some ⟨_, _, .func fd, _⟩ => (match fd.code with
        | .ref _ => true
        | _ => false)
      | _ => false) = true ∧ ∀ y ∈ fl, tbA K x = tbA K y → x = y := fun x hx => by
    obtain ⟨q1, q2, q3, q4⟩ := k9 x hx
    refine ⟨q1, fun y hy e => ?_⟩
    have := q4 y hy
    simp only [Bool.or_eq_true, decide_eq_true_eq] at this
    rcases this with z | z
    · exact absurd e z
    · exact z
  have defs : ∀ (f : Nat) x, M.fns[f]? = some x → ∃ d D ps fd, P.fns[f]? = some d ∧ fn[f]? = some D ∧ (DefT M fl f x d D ps ∧ Q f ps) ∧ DefF K mg (gmOf K M P lmd fl) (csOf K fl) M f d x (He.ga K x) fd ps := fun f x e => by
    obtain ⟨d, D, ps, h1, h2, h3, hQ⟩ := T f x e
    obtain ⟨g1, g2⟩ := k1 x (List.mem_of_getElem? e)
    have e2 : (fn.map fun d => He.fnObs K d.at_)[f]? = (fn.map He.FnD.val)[f]? := by rw [c2]
    rw [List.getElem?_map, List.getElem?_map, h2] at e2
    obtain ⟨fd, F⟩ := defF_of (P := P) (lmd := lmd) h3 X G (Option.some.inj e2) (k7 D (List.mem_of_getElem? h2)) g1 g2 hfl
    exact ⟨d, D, ps, fd, h1, h2, ⟨h3, hQ⟩, F⟩
  have n0 : 0 < M.cls.length := List.length_pos_iff.mpr hM
  have lt : ∀ c, nrm M.cls.length c < M.cls.length := fun c => by unfold nrm; split <;> omega
  have nn : ∀ c, nrm M.cls.length (nrm M.cls.length c) = nrm M.cls.length c := fun c => by
    have := lt c
    rw [show nrm M.cls.length (nrm M.cls.length c) = if nrm M.cls.length c < M.cls.length then nrm M.cls.length c else 0 from rfl, if_pos this]
  have two : ∀ c d, PySem.W.kitOne K (.ref (clsAt K M c)) (.ref (clsAt K M d)) = some (P.sub c d) ∧ PySem.W.exmOne K (.ref (clsAt K M c)) (.ref (clsAt K M d)) = some (P.sub c d) := fun c d => by
    rw [hs, clsAt_nrm c, clsAt_nrm d]
    have := k6 _ (List.mem_range.mpr (lt c)) _ (List.mem_range.mpr (lt d))
    simp only [decide_eq_true_eq] at this
    rw [this.1, this.2]
    unfold subP
    rw [nn, nn]
    exact ⟨rfl, rfl⟩
  refine ⟨⟨rfl, rfl, hlB, hcp, fun i x v e1 e2 => ?_, fun x hx => PySem.W.mg_none_of X G (He.eqO_ok (k3 x hx)), fun f x e => ?_, fun c x e => ?_, ⟨_, _, cc, IF, IT, fun c => ?_⟩, fun c => ?_, fun c d => (two c d).1, fun c d => (two c d).2, fun d => ?_, fun c => ?_⟩, defs, fun p hp => ?_, fun p hp => ?_, fun p hp => ?_⟩
  · refine glbV_ok (Γ := gmOf K M P lmd fl) X G (k8 (x, v) ?_)
    exact List.mem_of_getElem? (i := i) (by rw [List.getElem?_zip_eq_some]; exact ⟨e1, e2⟩)
  · obtain ⟨d, D, ps, fd, h1, _, _, F⟩ := defs f x e
    exact ⟨d, _, fd, ps, h1, F⟩
  · have e3 : clsAt K M c = He.ga K x := by
      unfold clsAt
      rw [List.getD_eq_getElem?_getD, e]
      rfl
    show mg x = some (.ref (clsAt K M c))
    rw [e3]
    exact PySem.W.mg_of X G (He.eqO_ok (k2 x (List.mem_of_getElem? e)))
  · obtain ⟨x, hx, e, _⟩ := clsAt_mem (K := K) hM c
    show ClsF K _ (clsAt K M c) ∧ PySem.W.findIn K (.ref (clsAt K M c)) _ = _
    rw [e]
    exact clsFB_ok (k5 x hx).1
  · obtain ⟨x, hx, e, _⟩ := clsAt_mem (K := K) hM c
    show ExcC K (clsAt K M c) ∧ PySem.W.kitOne K (.ref (clsAt K M c)) _ = _
    rw [e]
    exact (clsIB_ok (k5 x hx).2.1).1
  · obtain ⟨x, hx, e, _⟩ := clsAt_mem (K := K) hM d
    show PySem.W.kitOne K _ (.ref (clsAt K M d)) = _
    rw [e]
    exact (clsIB_ok (k5 x hx).2.1).2
  · obtain ⟨x, hx, e, e2⟩ := clsAt_mem (K := K) hM c
    show ClsR K (clsAt K M c) (P.cnm c)
    rw [hc, e2, e]
    exact clsRB_ok (k5 x hx).2.2
  · obtain ⟨x, hx, rfl⟩ := List.mem_map.mp hp
    obtain ⟨q1, q2, q3, q4⟩ := k9 x hx
    exact Option.isNone_iff_eq_none.mp q3
  · obtain ⟨x, hx, rfl⟩ := List.mem_map.mp hp
    obtain ⟨q1, q2, q3, q4⟩ := k9 x hx
    exact PySem.W.codeHd_of_K X q2
  · obtain ⟨x, hx, rfl⟩ := List.mem_map.mp hp
    exact ⟨cdA K x, List.mem_map.mpr ⟨x, hx, rfl⟩⟩
end EV
set_option linter.all false
set_option maxRecDepth 100000
set_option maxHeartbeats 2000000
namespace K01
open PySem PySem.Spec PyProof.Rows L2 EV
def top (i : Nat) : Stmt := PySem.Challenge.pw_elbowsexactly_k01_whole_numbers_of_unlik.main.body.getD i (.Pass ⟨0, 0, 0, 0⟩)
def lmd : List LmD := [⟨["one", "other"], [], [1, 2]⟩, ⟨["odd"], [], [1]⟩, ⟨["odd"], [], [1]⟩, ⟨["odd"], [], [1]⟩, ⟨["odd"], [], [1]⟩, ⟨["odd"], [], [1]⟩, ⟨[], ["miss"], []⟩, ⟨["odd"], [], [1]⟩, ⟨[], ["miss"], []⟩]
def lams : List Ld := [⟨2, 0, (.call 25 (.cons (.var 0) (.cons (.var 1) .nil)))⟩, ⟨1, 0, (.call 21 (.cons (.var 0) (.cons (.cst .non) .nil)))⟩, ⟨1, 0, (.call 20 (.cons (.tup (.cons (.cst (.int 1)) (.cons (.cst (.int 2)) .nil))) (.cons (.var 0) .nil)))⟩, ⟨1, 0, (.call 22 (.cons (.var 0) .nil))⟩, ⟨1, 0, (.call 24 (.cons (.var 0) (.cons (.cst .non) .nil)))⟩, ⟨1, 0, (.call 25 (.cons (.tup (.cons (.cst (.int 1)) (.cons (.cst (.int 2)) .nil))) (.cons (.var 0) .nil)))⟩, ⟨0, 1, (.expr (.isx 2 (.var 0)))⟩, ⟨1, 0, (.call 24 (.cons (.tup (.cons (.cst (.int 1)) (.cons (.cst (.int 2)) .nil))) (.cons (.var 0) .nil)))⟩, ⟨0, 1, (.expr (.isx 1 (.var 0)))⟩]
def fnNames : List Str := "is_int" :: "is_whole" :: "whole_root" :: "common" :: "rate" :: "is_lowest" :: "is_told_int" :: "plus" :: "times" :: "plain" :: "made" :: "scaled" :: "sign_of_int" :: "sign_under" :: "is_root" :: "is_number" :: "look_at_number" :: "element" :: "sign_of_four" :: "sign_between" :: "is_less_number" :: "order_of" :: "whole_part" :: "told_whole" :: "near_to" :: "between_numbers" :: "told_fraction_between" :: "_law_pot" :: "_law_take" :: "_law_of" :: "_law_cells" :: "_law_heard" :: "_law_is_bool" :: "_law_all_refused" :: "_law_gcd" :: "_law_rate" :: "_law_root_of" :: "_law_el" :: "_law_told" :: "_law_brought" :: "_law_both" :: "_law_tidy" :: "_law_sum" :: "_law_minus" :: "_law_sign" :: "_law_is_field" :: "_law_floor" :: "_law_compare" :: "_law_part" :: "_law_number_drawn" :: "_law_between" :: "_law_is_pair_right" :: "_law_are_refused" :: "_law_right" :: "law" :: []
def nms0 : Nms := ⟨fnNames, ["ZERO", "FIGURES", "MOST_FINE"], ["ArmError", "BadInt", "BadNumber", "Unlike"], [(20, 1, ["other"], [0, 1]), (21, 1, ["other"], [0, 1]), (25, 1, ["other"], [0, 1]), (22, 0, ["number"], [0]), (24, 1, ["fine"], [0, 1])], fun _ _ _ _ _ => false⟩
def nms : Nms := { nms0 with lamB := lamBf nms0 lams lmd }
def flg : List Str := ["_law_is_pair_right", "_law_are_refused"]
/-- is_int -/
def d0 : Fd := ⟨3, 3, (.cons (.ret (.an (.isi .int (.var 0)) (.an (.nt (.isi .bool (.var 0))) (.chn .LtE .LtE (.var 1) (.var 0) (.var 2))))) .nil), false, []⟩
def N0 : List Str := ["value", "low", "high"]
def p0 : List Str := ["value", "low", "high"]
def D0 : He.FnD := ⟨("is_int", none), "is_int", "is_int", defArgs (top 6), defBody (top 6), defScope (top 6)⟩
/-- is_whole -/
def d1 : Fd := ⟨1, 1, (.cons (.ret (.an (.isi .int (.var 0)) (.nt (.isi .bool (.var 0))))) .nil), false, []⟩
def N1 : List Str := ["value"]
def p1 : List Str := ["value"]
def D1 : He.FnD := ⟨("is_whole", none), "is_whole", "is_whole", defArgs (top 7), defBody (top 7), defScope (top 7)⟩
/-- whole_root -/
def d2 : Fd := ⟨1, 3, (.cons (.iff (.cmp .Lt (.var 0) (.cst (.int 2))) (.cons (.ret (.var 0)) .nil) .nil) (.cons (.asg (.tn 1) (.bin .LShift (.cst (.int 1)) (.bin .FloorDiv (.bin .Add (.bit (.var 0)) (.cst (.int 1))) (.cst (.int 2))))) (.cons (.whl (.cst (.bl true)) (.cons (.asg (.tn 2) (.bin .FloorDiv (.bin .Add (.var 1) (.bin .FloorDiv (.var 0) (.var 1))) (.cst (.int 2)))) (.cons (.iff (.cmp .GtE (.var 2) (.var 1)) (.cons (.ret (.var 1)) .nil) .nil) (.cons (.asg (.tn 1) (.var 2)) .nil)))) .nil))), false, []⟩
def N2 : List Str := ["number", "here", "nearer"]
def p2 : List Str := ["number"]
def D2 : He.FnD := ⟨("whole_root", none), "whole_root", "whole_root", defArgs (top 8), defBody (top 8), defScope (top 8)⟩
/-- common -/
def d3 : Fd := ⟨2, 2, (.cons (.par [0, 1] (.cons (.blt .abs (.cons (.var 0) .nil)) (.cons (.blt .abs (.cons (.var 1) .nil)) .nil))) (.cons (.whl (.cmp .NotEq (.var 1) (.cst (.int 0))) (.cons (.par [0, 1] (.cons (.var 1) (.cons (.bin .Mod (.var 0) (.var 1)) .nil))) .nil)) (.cons (.ret (.var 0)) .nil))), false, []⟩
def N3 : List Str := ["one", "other"]
def p3 : List Str := ["one", "other"]
def D3 : He.FnD := ⟨("common", none), "common", "common", defArgs (top 12), defBody (top 12), defScope (top 12)⟩
/-- rate -/
def d4 : Fd := ⟨2, 3, (.cons (.asg (.tn 2) (.call 3 (.cons (.var 0) (.cons (.var 1) .nil)))) (.cons (.iff (.cmp .Lt (.var 1) (.cst (.int 0))) (.cons (.asg (.tn 2) (.neg (.var 2))) .nil) .nil) (.cons (.ret (.tup (.cons (.bin .FloorDiv (.var 0) (.var 2)) (.cons (.bin .FloorDiv (.var 1) (.var 2)) .nil)))) .nil))), false, []⟩
def N4 : List Str := ["top", "bottom", "part"]
def p4 : List Str := ["top", "bottom"]
def D4 : He.FnD := ⟨("rate", none), "rate", "rate", defArgs (top 13), defBody (top 13), defScope (top 13)⟩
/-- is_lowest -/
def d5 : Fd := ⟨1, 2, (.cons (.iff (.oo (.nt (.isi .tuple (.var 0))) (.oo (.cmp .NotEq (.blt .len (.cons (.var 0) .nil)) (.cst (.int 2))) (.nt (.blt .all (.cons (.lc [1] (.tn 1) (.var 0) .nil (.call 6 (.cons (.var 1) .nil))) .nil))))) (.cons (.ret (.cst (.bl false))) .nil) .nil) (.cons (.ret (.an (.cmp .Gt (.idx (.var 0) (.cst (.int 1))) (.cst (.int 0))) (.cmp .Eq (.call 3 (.cons (.idx (.var 0) (.cst (.int 0))) (.cons (.idx (.var 0) (.cst (.int 1))) .nil))) (.cst (.int 1))))) .nil)), false, []⟩
def N5 : List Str := ["value", "one"]
def p5 : List Str := ["value"]
def D5 : He.FnD := ⟨("is_lowest", none), "is_lowest", "is_lowest", defArgs (top 14), defBody (top 14), defScope (top 14)⟩
/-- is_told_int -/
def d6 : Fd := ⟨1, 1, (.cons (.ret (.an (.call 1 (.cons (.var 0) .nil)) (.chn .Lt .Lt (.neg (.glb 1)) (.var 0) (.glb 1)))) .nil), false, []⟩
def N6 : List Str := ["value"]
def p6 : List Str := ["value"]
def D6 : He.FnD := ⟨("is_told_int", none), "is_told_int", "is_told_int", defArgs (top 15), defBody (top 15), defScope (top 15)⟩
/-- plus -/
def d7 : Fd := ⟨2, 2, (.cons (.ret (.call 4 (.cons (.bin .Add (.bin .Mult (.idx (.var 0) (.cst (.int 0))) (.idx (.var 1) (.cst (.int 1)))) (.bin .Mult (.idx (.var 1) (.cst (.int 0))) (.idx (.var 0) (.cst (.int 1))))) (.cons (.bin .Mult (.idx (.var 0) (.cst (.int 1))) (.idx (.var 1) (.cst (.int 1)))) .nil)))) .nil), false, []⟩
def N7 : List Str := ["one", "other"]
def p7 : List Str := ["one", "other"]
def D7 : He.FnD := ⟨("plus", none), "plus", "plus", defArgs (top 16), defBody (top 16), defScope (top 16)⟩
/-- times -/
def d8 : Fd := ⟨2, 2, (.cons (.ret (.call 4 (.cons (.bin .Mult (.idx (.var 0) (.cst (.int 0))) (.idx (.var 1) (.cst (.int 0)))) (.cons (.bin .Mult (.idx (.var 0) (.cst (.int 1))) (.idx (.var 1) (.cst (.int 1)))) .nil)))) .nil), false, []⟩
def N8 : List Str := ["one", "other"]
def p8 : List Str := ["one", "other"]
def D8 : He.FnD := ⟨("times", none), "times", "times", defArgs (top 17), defBody (top 17), defScope (top 17)⟩
/-- plain -/
def d9 : Fd := ⟨1, 1, (.cons (.ret (.tup (.cons (.var 0) (.cons (.glb 0) (.cons (.cst (.int 0)) .nil))))) .nil), false, []⟩
def N9 : List Str := ["one"]
def p9 : List Str := ["one"]
def D9 : He.FnD := ⟨("plain", none), "plain", "plain", defArgs (top 19), defBody (top 19), defScope (top 19)⟩
/-- made -/
def d10 : Fd := ⟨3, 3, (.cons (.ret (.ife (.cmp .NotEq (.idx (.var 1) (.cst (.int 0))) (.cst (.int 0))) (.tup (.cons (.var 0) (.cons (.var 1) (.cons (.var 2) .nil)))) (.tup (.cons (.var 0) (.cons (.glb 0) (.cons (.cst (.int 0)) .nil)))))) .nil), false, []⟩
def N10 : List Str := ["first", "second", "root"]
def p10 : List Str := ["first", "second", "root"]
def D10 : He.FnD := ⟨("made", none), "made", "made", defArgs (top 20), defBody (top 20), defScope (top 20)⟩
/-- scaled -/
def d11 : Fd := ⟨2, 2, (.cons (.ret (.call 10 (.cons (.call 8 (.cons (.idx (.var 0) (.cst (.int 0))) (.cons (.var 1) .nil))) (.cons (.call 8 (.cons (.idx (.var 0) (.cst (.int 1))) (.cons (.var 1) .nil))) (.cons (.idx (.var 0) (.cst (.int 2))) .nil))))) .nil), false, []⟩
def N11 : List Str := ["one", "part"]
def p11 : List Str := ["one", "part"]
def D11 : He.FnD := ⟨("scaled", none), "scaled", "scaled", defArgs (top 21), defBody (top 21), defScope (top 21)⟩
/-- sign_of_int -/
def d12 : Fd := ⟨1, 1, (.cons (.iff (.cmp .Eq (.var 0) (.cst (.int 0))) (.cons (.ret (.cst (.int 0))) .nil) .nil) (.cons (.ret (.ife (.cmp .Gt (.var 0) (.cst (.int 0))) (.cst (.int 1)) (.neg (.cst (.int 1))))) .nil)), false, []⟩
def N12 : List Str := ["one"]
def p12 : List Str := ["one"]
def D12 : He.FnD := ⟨("sign_of_int", none), "sign_of_int", "sign_of_int", defArgs (top 22), defBody (top 22), defScope (top 22)⟩
/-- sign_under -/
def d13 : Fd := ⟨3, 5, (.cons (.par [3, 4] (.cons (.call 12 (.cons (.var 0) .nil)) (.cons (.ife (.cmp .Gt (.var 2) (.cst (.int 0))) (.call 12 (.cons (.var 1) .nil)) (.cst (.int 0))) .nil))) (.cons (.iff (.oo (.cmp .Eq (.var 4) (.cst (.int 0))) (.cmp .Eq (.var 3) (.var 4))) (.cons (.ret (.var 3)) .nil) .nil) (.cons (.iff (.cmp .Eq (.var 3) (.cst (.int 0))) (.cons (.ret (.var 4)) .nil) .nil) (.cons (.ret (.bin .Mult (.var 3) (.call 12 (.cons (.bin .Sub (.bin .Mult (.var 0) (.var 0)) (.bin .Mult (.bin .Mult (.var 1) (.var 1)) (.var 2))) .nil)))) .nil)))), false, []⟩
def N13 : List Str := ["first", "second", "root", "mine", "its"]
def p13 : List Str := ["first", "second", "root"]
def D13 : He.FnD := ⟨("sign_under", none), "sign_under", "sign_under", defArgs (top 23), defBody (top 23), defScope (top 23)⟩
/-- is_root -/
def d14 : Fd := ⟨1, 7, (.cons (.iff (.oo (.nt (.isi .tuple (.var 0))) (.oo (.cmp .NotEq (.blt .len (.cons (.var 0) .nil)) (.cst (.int 4))) (.nt (.blt .all (.cons (.lc [6] (.tn 6) (.var 0) .nil (.call 6 (.cons (.var 6) .nil))) .nil))))) (.cons (.ret (.cst (.bl false))) .nil) .nil) (.cons (.asg (.tt (.cons (.tn 2) (.cons (.tn 3) (.cons (.tn 4) (.cons (.tn 5) .nil))))) (.var 0)) (.cons (.iff (.oo (.cmp .Lt (.var 2) (.cst (.int 1))) (.oo (.cmp .NotIn (.var 5) (.tup (.cons (.neg (.cst (.int 1))) (.cons (.cst (.int 1)) .nil)))) (.cmp .NotEq (.call 3 (.cons (.call 3 (.cons (.var 2) (.cons (.var 3) .nil))) (.cons (.var 4) .nil))) (.cst (.int 1))))) (.cons (.ret (.cst (.bl false))) .nil) .nil) (.cons (.asg (.tn 1) (.bin .Sub (.bin .Mult (.var 3) (.var 3)) (.bin .Mult (.bin .Mult (.cst (.int 4)) (.var 2)) (.var 4)))) (.cons (.ret (.an (.cmp .Gt (.var 1) (.cst (.int 0))) (.cmp .NotEq (.bin .Pow (.call 2 (.cons (.var 1) .nil)) (.cst (.int 2))) (.var 1)))) .nil))))), false, []⟩
def N14 : List Str := ["value", "inner", "first", "second", "last", "side", "one"]
def p14 : List Str := ["value"]
def D14 : He.FnD := ⟨("is_root", none), "is_root", "is_root", defArgs (top 24), defBody (top 24), defScope (top 24)⟩
/-- is_number -/
def d15 : Fd := ⟨1, 1, (.cons (.ret (.oo (.call 5 (.cons (.var 0) .nil)) (.call 14 (.cons (.var 0) .nil)))) .nil), false, []⟩
def N15 : List Str := ["value"]
def p15 : List Str := ["value"]
def D15 : He.FnD := ⟨("is_number", none), "is_number", "is_number", defArgs (top 25), defBody (top 25), defScope (top 25)⟩
/-- look_at_number -/
def d16 : Fd := ⟨1, 1, (.cons (.iff (.nt (.call 15 (.cons (.var 0) .nil))) (.cons (.rse 2 (.var 0)) .nil) .nil) .nil), false, []⟩
def N16 : List Str := ["value"]
def p16 : List Str := ["value"]
def D16 : He.FnD := ⟨("look_at_number", none), "look_at_number", "look_at_number", defArgs (top 26), defBody (top 26), defScope (top 26)⟩
/-- element -/
def d17 : Fd := ⟨1, 5, (.cons (.iff (.cmp .Eq (.blt .len (.cons (.var 0) .nil)) (.cst (.int 2))) (.cons (.ret (.call 9 (.cons (.var 0) .nil))) .nil) .nil) (.cons (.asg (.tt (.cons (.tn 1) (.cons (.tn 2) (.cons (.tn 3) (.cons (.tn 4) .nil))))) (.var 0)) (.cons (.ret (.tup (.cons (.call 4 (.cons (.neg (.var 2)) (.cons (.bin .Mult (.cst (.int 2)) (.var 1)) .nil))) (.cons (.call 4 (.cons (.var 4) (.cons (.bin .Mult (.cst (.int 2)) (.var 1)) .nil))) (.cons (.bin .Sub (.bin .Mult (.var 2) (.var 2)) (.bin .Mult (.bin .Mult (.cst (.int 4)) (.var 1)) (.var 3))) .nil))))) .nil))), false, []⟩
def N17 : List Str := ["number", "first", "second", "last", "side"]
def p17 : List Str := ["number"]
def D17 : He.FnD := ⟨("element", none), "element", "element", defArgs (top 27), defBody (top 27), defScope (top 27)⟩
/-- sign_of_four -/
def d18 : Fd := ⟨6, 9, (.cons (.asg (.tn 6) (.call 13 (.cons (.var 0) (.cons (.var 1) (.cons (.var 4) .nil))))) (.cons (.asg (.tn 7) (.ife (.cmp .Gt (.var 5) (.cst (.int 0))) (.call 13 (.cons (.var 2) (.cons (.var 3) (.cons (.var 4) .nil)))) (.cst (.int 0)))) (.cons (.iff (.oo (.cmp .Eq (.var 7) (.cst (.int 0))) (.cmp .Eq (.var 6) (.var 7))) (.cons (.ret (.var 6)) .nil) .nil) (.cons (.iff (.cmp .Eq (.var 6) (.cst (.int 0))) (.cons (.ret (.var 7)) .nil) .nil) (.cons (.asg (.tn 8) (.bin .Sub (.bin .Add (.bin .Mult (.var 0) (.var 0)) (.bin .Mult (.bin .Mult (.var 1) (.var 1)) (.var 4))) (.bin .Mult (.bin .Add (.bin .Mult (.var 2) (.var 2)) (.bin .Mult (.bin .Mult (.var 3) (.var 3)) (.var 4))) (.var 5)))) (.cons (.ret (.bin .Mult (.var 6) (.call 13 (.cons (.var 8) (.cons (.bin .Mult (.cst (.int 2)) (.bin .Sub (.bin .Mult (.var 0) (.var 1)) (.bin .Mult (.bin .Mult (.var 2) (.var 3)) (.var 5)))) (.cons (.var 4) .nil)))))) .nil)))))), false, []⟩
def N18 : List Str := ["first", "second", "third", "fourth", "root", "other", "mine", "its", "plain_part"]
def p18 : List Str := ["first", "second", "third", "fourth", "root", "other"]
def D18 : He.FnD := ⟨("sign_of_four", none), "sign_of_four", "sign_of_four", defArgs (top 30), defBody (top 30), defScope (top 30)⟩
/-- sign_between -/
def d19 : Fd := ⟨2, 15, (.cons (.asg (.tt (.cons (.tt (.cons (.tn 7) (.cons (.tn 8) .nil))) (.cons (.tt (.cons (.tn 9) (.cons (.tn 10) .nil))) (.cons (.tn 5) .nil)))) (.var 0)) (.cons (.asg (.tt (.cons (.tt (.cons (.tn 11) (.cons (.tn 12) .nil))) (.cons (.tt (.cons (.tn 13) (.cons (.tn 14) .nil))) (.cons (.tn 6) .nil)))) (.var 1)) (.cons (.asg (.tn 2) (.bin .Mult (.bin .Mult (.bin .Sub (.bin .Mult (.var 7) (.var 12)) (.bin .Mult (.var 11) (.var 8))) (.var 10)) (.var 14))) (.cons (.asg (.tn 3) (.bin .Mult (.bin .Mult (.bin .Mult (.var 9) (.var 8)) (.var 12)) (.var 14))) (.cons (.asg (.tn 4) (.bin .Mult (.bin .Mult (.bin .Mult (.neg (.var 13)) (.var 8)) (.var 12)) (.var 10))) (.cons (.ret (.call 18 (.cons (.var 2) (.cons (.var 3) (.cons (.var 4) (.cons (.cst (.int 0)) (.cons (.var 5) (.cons (.var 6) .nil)))))))) .nil)))))), false, []⟩
def N19 : List Str := ["one", "other", "first", "second", "third", "root", "its_root", "top", "bottom", "root_top", "root_bottom", "its_top", "its_bottom", "its_root_top", "its_root_bottom"]
def p19 : List Str := ["one", "other"]
def D19 : He.FnD := ⟨("sign_between", none), "sign_between", "sign_between", defArgs (top 31), defBody (top 31), defScope (top 31)⟩
/-- is_less_number -/
def d20 : Fd := ⟨2, 2, (.cons (.xpr (.call 16 (.cons (.var 0) .nil))) (.cons (.xpr (.call 16 (.cons (.var 1) .nil))) (.cons (.ret (.cmp .Lt (.call 19 (.cons (.call 17 (.cons (.var 0) .nil)) (.cons (.call 17 (.cons (.var 1) .nil)) .nil))) (.cst (.int 0)))) .nil))), false, []⟩
def N20 : List Str := ["one", "other"]
def p20 : List Str := ["one", "other"]
def D20 : He.FnD := ⟨("is_less_number", none), "is_less_number", "is_less_number", defArgs (top 32), defBody (top 32), defScope (top 32)⟩
/-- order_of -/
def d21 : Fd := ⟨2, 2, (.cons (.xpr (.call 16 (.cons (.var 0) .nil))) (.cons (.xpr (.call 16 (.cons (.var 1) .nil))) (.cons (.ret (.call 19 (.cons (.call 17 (.cons (.var 0) .nil)) (.cons (.call 17 (.cons (.var 1) .nil)) .nil)))) .nil))), false, []⟩
def N21 : List Str := ["one", "other"]
def p21 : List Str := ["one", "other"]
def D21 : He.FnD := ⟨("order_of", none), "order_of", "order_of", defArgs (top 33), defBody (top 33), defScope (top 33)⟩
/-- whole_part -/
def d22 : Fd := ⟨1, 1, (.cons (.xpr (.call 16 (.cons (.var 0) .nil))) (.cons (.ret (.call 23 (.cons (.call 17 (.cons (.var 0) .nil)) .nil))) .nil)), false, []⟩
def N22 : List Str := ["number"]
def p22 : List Str := ["number"]
def D22 : He.FnD := ⟨("whole_part", none), "whole_part", "whole_part", defArgs (top 34), defBody (top 34), defScope (top 34)⟩
/-- told_whole -/
def d23 : Fd := ⟨1, 5, (.cons (.iff (.cmp .Eq (.idx (.idx (.var 0) (.cst (.int 1))) (.cst (.int 0))) (.cst (.int 0))) (.cons (.ret (.bin .FloorDiv (.idx (.idx (.var 0) (.cst (.int 0))) (.cst (.int 0))) (.idx (.idx (.var 0) (.cst (.int 0))) (.cst (.int 1))))) .nil) .nil) (.cons (.asg (.tn 1) (.bin .Mult (.bin .Mult (.idx (.idx (.var 0) (.cst (.int 1))) (.cst (.int 0))) (.idx (.idx (.var 0) (.cst (.int 1))) (.cst (.int 0)))) (.idx (.var 0) (.cst (.int 2))))) (.cons (.asg (.tn 2) (.call 2 (.cons (.bin .FloorDiv (.var 1) (.bin .Mult (.idx (.idx (.var 0) (.cst (.int 1))) (.cst (.int 1))) (.idx (.idx (.var 0) (.cst (.int 1))) (.cst (.int 1))))) .nil))) (.cons (.asg (.tn 3) (.call 7 (.cons (.idx (.var 0) (.cst (.int 0))) (.cons (.tup (.cons (.ife (.cmp .Gt (.idx (.idx (.var 0) (.cst (.int 1))) (.cst (.int 0))) (.cst (.int 0))) (.var 2) (.bin .Sub (.neg (.var 2)) (.cst (.int 1)))) (.cons (.cst (.int 1)) .nil))) .nil)))) (.cons (.asg (.tn 4) (.bin .Sub (.bin .FloorDiv (.idx (.var 3) (.cst (.int 0))) (.idx (.var 3) (.cst (.int 1)))) (.cst (.int 1)))) (.cons (.whl (.cmp .GtE (.call 19 (.cons (.var 0) (.cons (.call 9 (.cons (.tup (.cons (.bin .Add (.var 4) (.cst (.int 1))) (.cons (.cst (.int 1)) .nil))) .nil)) .nil))) (.cst (.int 0))) (.cons (.aug 4 .Add (.cst (.int 1))) .nil)) (.cons (.ret (.var 4)) .nil))))))), false, []⟩
def N23 : List Str := ["one", "top", "near", "low", "found"]
def p23 : List Str := ["one"]
def D23 : He.FnD := ⟨("told_whole", none), "told_whole", "told_whole", defArgs (top 35), defBody (top 35), defScope (top 35)⟩
/-- near_to -/
def d24 : Fd := ⟨2, 2, (.cons (.xpr (.call 16 (.cons (.var 0) .nil))) (.cons (.iff (.nt (.call 0 (.cons (.var 1) (.cons (.cst (.int 1)) (.cons (.glb 2) .nil))))) (.cons (.rse 1 (.var 1)) .nil) .nil) (.cons (.ret (.call 4 (.cons (.call 23 (.cons (.call 11 (.cons (.call 17 (.cons (.var 0) .nil)) (.cons (.tup (.cons (.var 1) (.cons (.cst (.int 1)) .nil))) .nil))) .nil)) (.cons (.var 1) .nil)))) .nil))), false, []⟩
def N24 : List Str := ["number", "fine"]
def p24 : List Str := ["number", "fine"]
def D24 : He.FnD := ⟨("near_to", none), "near_to", "near_to", defArgs (top 36), defBody (top 36), defScope (top 36)⟩
/-- between_numbers -/
def d25 : Fd := ⟨2, 2, (.cons (.xpr (.call 16 (.cons (.var 0) .nil))) (.cons (.xpr (.call 16 (.cons (.var 1) .nil))) (.cons (.iff (.cmp .GtE (.call 19 (.cons (.call 17 (.cons (.var 0) .nil)) (.cons (.call 17 (.cons (.var 1) .nil)) .nil))) (.cst (.int 0))) (.cons (.rse 3 (.var 1)) .nil) .nil) (.cons (.ret (.call 26 (.cons (.call 17 (.cons (.var 0) .nil)) (.cons (.call 17 (.cons (.var 1) .nil)) .nil)))) .nil)))), false, []⟩
def N25 : List Str := ["one", "other"]
def p25 : List Str := ["one", "other"]
def D25 : He.FnD := ⟨("between_numbers", none), "between_numbers", "between_numbers", defArgs (top 37), defBody (top 37), defScope (top 37)⟩
/-- told_fraction_between -/
def d26 : Fd := ⟨2, 4, (.cons (.asg (.tn 2) (.cst (.int 1))) (.cons (.whl (.cst (.bl true)) (.cons (.asg (.tn 3) (.call 4 (.cons (.bin .Add (.call 23 (.cons (.call 11 (.cons (.var 0) (.cons (.tup (.cons (.var 2) (.cons (.cst (.int 1)) .nil))) .nil))) .nil)) (.cst (.int 1))) (.cons (.var 2) .nil)))) (.cons (.iff (.cmp .Lt (.call 19 (.cons (.call 9 (.cons (.var 3) .nil)) (.cons (.var 1) .nil))) (.cst (.int 0))) (.cons (.ret (.var 3)) .nil) .nil) (.cons (.aug 2 .Mult (.cst (.int 2))) .nil)))) .nil)), false, []⟩
def N26 : List Str := ["one", "other", "fine", "found"]
def p26 : List Str := ["one", "other"]
def D26 : He.FnD := ⟨("told_fraction_between", none), "told_fraction_between", "told_fraction_between", defArgs (top 38), defBody (top 38), defScope (top 38)⟩
/-- _law_pot -/
def d27 : Fd := ⟨2, 5, (.cons (.asg (.tn 2) (.ife (.cmp .Lt (.var 1) (.blt .len (.cons (.var 0) .nil))) (.idx (.var 0) (.var 1)) (.bin .Add (.bin .Add (.bin .Mod (.blt .int (.cons (.blt .sum (.cons (.slc (.var 0) .none (.cst (.int 1))) .nil)) .nil)) (.cst (.int 1000211))) (.bin .Mult (.cst (.int 4639)) (.var 1))) (.cst (.int 3163))))) (.cons (.asg (.tn 3) (.bin .Mult (.bin .Mod (.blt .int (.cons (.blt .abs (.cons (.var 2) .nil)) .nil)) (.bin .Pow (.bin .Pow (.cst (.int 10)) (.cst (.int 60))) (.cst (.int 5)))) (.blt .int (.cons (.cmp .GtE (.blt .abs (.cons (.var 2) .nil)) (.bin .Pow (.cst (.int 10)) (.cst (.int 18)))) .nil)))) (.cons (.asg (.tn 4) (.bin .Mod (.blt .int (.cons (.var 2) .nil)) (.cst (.int 2305843009213693951)))) (.cons (.ret (.lst (.cons (.var 3) (.cons (.bin .Mod (.blt .int (.cons (.bin .Add (.bin .Add (.bin .Mult (.var 4) (.cst (.int 72161))) (.bin .Mult (.bin .Mult (.cst (.int 10853)) (.var 1)) (.var 1))) (.cst (.int 2843))) .nil)) (.cst (.int 2305843009213693921))) (.cons (.cst (.int 0)) .nil))))) .nil)))), false, []⟩
def N27 : List Str := ["script", "place", "cell", "own", "small"]
def p27 : List Str := ["script", "place"]
def D27 : He.FnD := ⟨("_law_pot", none), "_law_pot", "_law_pot", defArgs (top 40), defBody (top 40), defScope (top 40)⟩
/-- _law_take -/
def d28 : Fd := ⟨2, 5, (.cons (.iff (.cmp .Gt (.idx (.var 0) (.cst (.int 0))) (.cst (.int 0))) (.cons (.asg (.tn 4) (.bin .Mod (.blt .int (.cons (.idx (.var 0) (.cst (.int 0))) .nil)) (.var 1))) (.cons (.asg (.tsub (.var 0) (.cst (.int 0))) (.bin .FloorDiv (.idx (.var 0) (.cst (.int 0))) (.var 1))) (.cons (.ret (.var 4)) .nil))) .nil) (.cons (.asg (.tsub (.var 0) (.cst (.int 2))) (.bin .Add (.idx (.var 0) (.cst (.int 2))) (.cst (.int 1)))) (.cons (.asg (.tn 2) (.idx (.lst (.cons (.cst (.int 2147483647)) (.cons (.cst (.int 2147483629)) (.cons (.cst (.int 2147483587)) (.cons (.cst (.int 2147483579)) (.cons (.cst (.int 2147483563)) .nil)))))) (.bin .Mod (.blt .int (.cons (.idx (.var 0) (.cst (.int 2))) .nil)) (.cst (.int 5))))) (.cons (.asg (.tn 3) (.bin .Mod (.blt .int (.cons (.bin .Pow (.blt .int (.cons (.bin .Add (.bin .Add (.idx (.var 0) (.cst (.int 1))) (.bin .Mult (.bin .Mult (.cst (.int 95257)) (.idx (.var 0) (.cst (.int 2)))) (.idx (.var 0) (.cst (.int 2))))) (.cst (.int 3163))) .nil)) (.cst (.int 3))) .nil)) (.var 2))) (.cons (.asg (.tn 3) (.bin .Mod (.blt .int (.cons (.bin .Mult (.var 3) (.bin .Add (.bin .Mod (.blt .int (.cons (.var 3) .nil)) (.cst (.int 13441))) (.bin .Mult (.cst (.int 419)) (.idx (.var 0) (.cst (.int 2)))))) .nil)) (.cst (.int 2305843009213693907)))) (.cons (.ret (.bin .Mod (.blt .int (.cons (.bin .FloorDiv (.var 3) (.cst (.int 229))) .nil)) (.var 1))) .nil)))))), false, []⟩
def N28 : List Str := ["pot", "upto", "prime", "blend", "digit"]
def p28 : List Str := ["pot", "upto"]
def D28 : He.FnD := ⟨("_law_take", none), "_law_take", "_law_take", defArgs (top 41), defBody (top 41), defScope (top 41)⟩
/-- _law_of -/
def d29 : Fd := ⟨2, 2, (.cons (.ret (.idx (.var 1) (.call 28 (.cons (.var 0) (.cons (.blt .len (.cons (.var 1) .nil)) .nil))))) .nil), false, []⟩
def N29 : List Str := ["pot", "some"]
def p29 : List Str := ["pot", "some"]
def D29 : He.FnD := ⟨("_law_of", none), "_law_of", "_law_of", defArgs (top 42), defBody (top 42), defScope (top 42)⟩
/-- _law_cells -/
def d30 : Fd := ⟨2, 2, (.cons (.ret (.lrg (.blt .max2 (.cons (.cst (.int 1)) (.cons (.blt .min2 (.cons (.var 1) (.cons (.blt .len (.cons (.var 0) .nil)) .nil))) .nil))))) .nil), false, []⟩
def N30 : List Str := ["script", "most"]
def p30 : List Str := ["script", "most"]
def D30 : He.FnD := ⟨("_law_cells", none), "_law_cells", "_law_cells", defArgs (top 43), defBody (top 43), defScope (top 43)⟩
/-- _law_heard -/
def d31 : Fd := ⟨1, 4, (.cons (.asg (.tt (.cons (.tn 2) (.cons (.tn 3) .nil))) (.tup (.cons (.cst .non) (.cons (.cst .non) .nil)))) (.cons (.try1 3 2 1 0 (.clov 0 .nil)) (.cons (.ret (.tup (.cons (.var 2) (.cons (.var 3) .nil)))) .nil))), false, []⟩
def N31 : List Str := ["call", "error", "caught", "gave"]
def p31 : List Str := ["call"]
def D31 : He.FnD := ⟨("_law_heard", none), "_law_heard", "_law_heard", defArgs (top 44), defBody (top 44), defScope (top 44)⟩
/-- _law_is_bool -/
def d32 : Fd := ⟨2, 2, (.cons (.ret (.an (.isi .bool (.var 0)) (.cmp .Eq (.var 0) (.var 1)))) .nil), false, []⟩
def N32 : List Str := ["answer", "due"]
def p32 : List Str := ["answer", "due"]
def D32 : He.FnD := ⟨("_law_is_bool", none), "_law_is_bool", "_law_is_bool", defArgs (top 45), defBody (top 45), defScope (top 45)⟩
/-- _law_all_refused -/
def d33 : Fd := ⟨3, 6, (.cons (.alc 3 [4] (.tn 4) (.var 0) .nil (.idx (.call 31 (.cons (.var 4) .nil)) (.cst (.int 0)))) (.cons (.ret (.blt .all (.cons (.lc [5] (.tn 5) (.var 3) .nil (.an (.clov 1 (.cons (.var 5) .nil)) (.an (.isi .verr (.var 5)) (.cmp .Eq (.rpx (.attr (.var 5))) (.rpx (.var 2)))))) .nil))) .nil)), false, []⟩
def N33 : List Str := ["looks", "is_it", "value", "caught", "look", "miss"]
def p33 : List Str := ["looks", "is_it", "value"]
def D33 : He.FnD := ⟨("_law_all_refused", none), "_law_all_refused", "_law_all_refused", defArgs (top 46), defBody (top 46), defScope (top 46)⟩
/-- _law_gcd -/
def d34 : Fd := ⟨2, 2, (.cons (.par [0, 1] (.cons (.blt .abs (.cons (.var 0) .nil)) (.cons (.blt .abs (.cons (.var 1) .nil)) .nil))) (.cons (.whl (.cmp .NotEq (.var 1) (.cst (.int 0))) (.cons (.par [0, 1] (.cons (.var 1) (.cons (.bin .Mod (.var 0) (.var 1)) .nil))) .nil)) (.cons (.ret (.var 0)) .nil))), false, []⟩
def N34 : List Str := ["one", "other"]
def p34 : List Str := ["one", "other"]
def D34 : He.FnD := ⟨("_law_gcd", none), "_law_gcd", "_law_gcd", defArgs (top 47), defBody (top 47), defScope (top 47)⟩
/-- _law_rate -/
def d35 : Fd := ⟨2, 3, (.cons (.asg (.tn 2) (.bin .Mult (.call 34 (.cons (.var 0) (.cons (.var 1) .nil))) (.ife (.cmp .Gt (.var 1) (.cst (.int 0))) (.cst (.int 1)) (.neg (.cst (.int 1)))))) (.cons (.ret (.tup (.cons (.bin .FloorDiv (.var 0) (.var 2)) (.cons (.bin .FloorDiv (.var 1) (.var 2)) .nil)))) .nil)), false, []⟩
def N35 : List Str := ["top", "bottom", "part"]
def p35 : List Str := ["top", "bottom"]
def D35 : He.FnD := ⟨("_law_rate", none), "_law_rate", "_law_rate", defArgs (top 48), defBody (top 48), defScope (top 48)⟩
/-- _law_root_of -/
def d36 : Fd := ⟨1, 4, (.cons (.par [1, 2] (.cons (.cst (.int 0)) (.cons (.bin .Add (.var 0) (.cst (.int 1))) .nil))) (.cons (.whl (.cmp .Gt (.bin .Sub (.var 2) (.var 1)) (.cst (.int 1))) (.cons (.asg (.tn 3) (.bin .FloorDiv (.bin .Add (.var 1) (.var 2)) (.cst (.int 2)))) (.cons (.asg (.tt (.cons (.tn 1) (.cons (.tn 2) .nil))) (.ife (.cmp .LtE (.bin .Mult (.var 3) (.var 3)) (.var 0)) (.tup (.cons (.var 3) (.cons (.var 2) .nil))) (.tup (.cons (.var 1) (.cons (.var 3) .nil))))) .nil))) (.cons (.ret (.var 1)) .nil))), false, []⟩
def N36 : List Str := ["number", "low", "high", "middle"]
def p36 : List Str := ["number"]
def D36 : He.FnD := ⟨("_law_root_of", none), "_law_root_of", "_law_root_of", defArgs (top 49), defBody (top 49), defScope (top 49)⟩
/-- _law_el -/
def d37 : Fd := ⟨1, 5, (.cons (.iff (.cmp .Eq (.blt .len (.cons (.var 0) .nil)) (.cst (.int 2))) (.cons (.ret (.tup (.cons (.idx (.var 0) (.cst (.int 0))) (.cons (.cst (.int 0)) (.cons (.idx (.var 0) (.cst (.int 1))) (.cons (.cst (.int 0)) .nil)))))) .nil) .nil) (.cons (.asg (.tt (.cons (.tn 1) (.cons (.tn 2) (.cons (.tn 3) (.cons (.tn 4) .nil))))) (.var 0)) (.cons (.ret (.tup (.cons (.neg (.var 2)) (.cons (.var 4) (.cons (.bin .Mult (.cst (.int 2)) (.var 1)) (.cons (.bin .Sub (.bin .Mult (.var 2) (.var 2)) (.bin .Mult (.bin .Mult (.cst (.int 4)) (.var 1)) (.var 3))) .nil)))))) .nil))), false, []⟩
def N37 : List Str := ["number", "first", "second", "last", "side"]
def p37 : List Str := ["number"]
def D37 : He.FnD := ⟨("_law_el", none), "_law_el", "_law_el", defArgs (top 50), defBody (top 50), defScope (top 50)⟩
/-- _law_told -/
def d38 : Fd := ⟨1, 10, (.cons (.asg (.tt (.cons (.tn 3) (.cons (.tn 4) (.cons (.tn 5) (.cons (.tn 6) .nil))))) (.var 0)) (.cons (.asg (.tn 1) (.call 36 (.cons (.var 6) .nil))) (.cons (.iff (.oo (.cmp .Eq (.var 4) (.cst (.int 0))) (.cmp .Eq (.bin .Mult (.var 1) (.var 1)) (.var 6))) (.cons (.ret (.call 35 (.cons (.bin .Add (.var 3) (.bin .Mult (.var 4) (.ife (.cmp .NotEq (.var 4) (.cst (.int 0))) (.var 1) (.cst (.int 0))))) (.cons (.var 5) .nil)))) .nil) .nil) (.cons (.par [7, 8, 9] (.cons (.bin .Mult (.var 5) (.var 5)) (.cons (.bin .Mult (.bin .Mult (.neg (.cst (.int 2))) (.var 3)) (.var 5)) (.cons (.bin .Sub (.bin .Mult (.var 3) (.var 3)) (.bin .Mult (.bin .Mult (.var 4) (.var 4)) (.var 6))) .nil)))) (.cons (.asg (.tn 2) (.call 34 (.cons (.call 34 (.cons (.var 7) (.cons (.var 8) .nil))) (.cons (.var 9) .nil)))) (.cons (.ret (.tup (.cons (.bin .FloorDiv (.var 7) (.var 2)) (.cons (.bin .FloorDiv (.var 8) (.var 2)) (.cons (.bin .FloorDiv (.var 9) (.var 2)) (.cons (.ife (.cmp .Eq (.cmp .Gt (.var 4) (.cst (.int 0))) (.cmp .Gt (.var 5) (.cst (.int 0)))) (.cst (.int 1)) (.neg (.cst (.int 1)))) .nil)))))) .nil)))))), false, []⟩
def N38 : List Str := ["one", "root", "part", "p", "q", "r", "d", "first", "second", "last"]
def p38 : List Str := ["one"]
def D38 : He.FnD := ⟨("_law_told", none), "_law_told", "_law_told", defArgs (top 51), defBody (top 51), defScope (top 51)⟩
/-- _law_brought -/
def d39 : Fd := ⟨2, 3, (.cons (.iff (.cmp .In (.idx (.var 0) (.cst (.int 3))) (.tup (.cons (.cst (.int 0)) (.cons (.var 1) .nil)))) (.cons (.ret (.tup (.cons (.idx (.var 0) (.cst (.int 0))) (.cons (.idx (.var 0) (.cst (.int 1))) (.cons (.idx (.var 0) (.cst (.int 2))) (.cons (.var 1) .nil)))))) .nil) .nil) (.cons (.asg (.tn 2) (.call 36 (.cons (.bin .Mult (.idx (.var 0) (.cst (.int 3))) (.var 1)) .nil))) (.cons (.ret (.tup (.cons (.bin .Mult (.idx (.var 0) (.cst (.int 0))) (.var 1)) (.cons (.bin .Mult (.idx (.var 0) (.cst (.int 1))) (.var 2)) (.cons (.bin .Mult (.idx (.var 0) (.cst (.int 2))) (.var 1)) (.cons (.var 1) .nil)))))) .nil))), false, []⟩
def N39 : List Str := ["one", "d", "whole"]
def p39 : List Str := ["one", "d"]
def D39 : He.FnD := ⟨("_law_brought", none), "_law_brought", "_law_brought", defArgs (top 52), defBody (top 52), defScope (top 52)⟩
/-- _law_both -/
def d40 : Fd := ⟨2, 3, (.cons (.asg (.tn 2) (.ife (.cmp .NotEq (.idx (.var 0) (.cst (.int 3))) (.cst (.int 0))) (.idx (.var 0) (.cst (.int 3))) (.idx (.var 1) (.cst (.int 3))))) (.cons (.ret (.tup (.cons (.call 39 (.cons (.var 0) (.cons (.var 2) .nil))) (.cons (.call 39 (.cons (.var 1) (.cons (.var 2) .nil))) .nil)))) .nil)), false, []⟩
def N40 : List Str := ["one", "other", "d"]
def p40 : List Str := ["one", "other"]
def D40 : He.FnD := ⟨("_law_both", none), "_law_both", "_law_both", defArgs (top 53), defBody (top 53), defScope (top 53)⟩
/-- _law_tidy -/
def d41 : Fd := ⟨1, 2, (.cons (.asg (.tn 1) (.bin .Mult (.call 34 (.cons (.call 34 (.cons (.idx (.var 0) (.cst (.int 0))) (.cons (.idx (.var 0) (.cst (.int 1))) .nil))) (.cons (.idx (.var 0) (.cst (.int 2))) .nil))) (.ife (.cmp .Gt (.idx (.var 0) (.cst (.int 2))) (.cst (.int 0))) (.cst (.int 1)) (.neg (.cst (.int 1)))))) (.cons (.ret (.tup (.cons (.bin .FloorDiv (.idx (.var 0) (.cst (.int 0))) (.var 1)) (.cons (.bin .FloorDiv (.idx (.var 0) (.cst (.int 1))) (.var 1)) (.cons (.bin .FloorDiv (.idx (.var 0) (.cst (.int 2))) (.var 1)) (.cons (.idx (.var 0) (.cst (.int 3))) .nil)))))) .nil)), false, []⟩
def N41 : List Str := ["one", "part"]
def p41 : List Str := ["one"]
def D41 : He.FnD := ⟨("_law_tidy", none), "_law_tidy", "_law_tidy", defArgs (top 54), defBody (top 54), defScope (top 54)⟩
/-- _law_sum -/
def d42 : Fd := ⟨2, 6, (.cons (.asg (.tt (.cons (.tn 2) (.cons (.tn 3) .nil))) (.call 40 (.cons (.var 0) (.cons (.var 1) .nil)))) (.cons (.par [4, 5] (.cons (.bin .Add (.bin .Mult (.idx (.var 2) (.cst (.int 0))) (.idx (.var 3) (.cst (.int 2)))) (.bin .Mult (.idx (.var 3) (.cst (.int 0))) (.idx (.var 2) (.cst (.int 2))))) (.cons (.bin .Add (.bin .Mult (.idx (.var 2) (.cst (.int 1))) (.idx (.var 3) (.cst (.int 2)))) (.bin .Mult (.idx (.var 3) (.cst (.int 1))) (.idx (.var 2) (.cst (.int 2))))) .nil))) (.cons (.ret (.call 41 (.cons (.tup (.cons (.var 4) (.cons (.var 5) (.cons (.bin .Mult (.idx (.var 2) (.cst (.int 2))) (.idx (.var 3) (.cst (.int 2)))) (.cons (.idx (.var 2) (.cst (.int 3))) .nil))))) .nil))) .nil))), false, []⟩
def N42 : List Str := ["one", "other", "mine", "its", "top", "root"]
def p42 : List Str := ["one", "other"]
def D42 : He.FnD := ⟨("_law_sum", none), "_law_sum", "_law_sum", defArgs (top 55), defBody (top 55), defScope (top 55)⟩
/-- _law_minus -/
def d43 : Fd := ⟨1, 1, (.cons (.ret (.tup (.cons (.neg (.idx (.var 0) (.cst (.int 0)))) (.cons (.neg (.idx (.var 0) (.cst (.int 1)))) (.cons (.idx (.var 0) (.cst (.int 2))) (.cons (.idx (.var 0) (.cst (.int 3))) .nil)))))) .nil), false, []⟩
def N43 : List Str := ["one"]
def p43 : List Str := ["one"]
def D43 : He.FnD := ⟨("_law_minus", none), "_law_minus", "_law_minus", defArgs (top 56), defBody (top 56), defScope (top 56)⟩
/-- _law_sign -/
def d44 : Fd := ⟨1, 6, (.cons (.par [2, 3] (.cons (.bin .Mult (.idx (.var 0) (.cst (.int 0))) (.ife (.cmp .Gt (.idx (.var 0) (.cst (.int 2))) (.cst (.int 0))) (.cst (.int 1)) (.neg (.cst (.int 1))))) (.cons (.bin .Mult (.idx (.var 0) (.cst (.int 1))) (.ife (.cmp .Gt (.idx (.var 0) (.cst (.int 2))) (.cst (.int 0))) (.cst (.int 1)) (.neg (.cst (.int 1))))) .nil))) (.cons (.par [4, 5] (.cons (.bin .Sub (.cmp .Gt (.var 2) (.cst (.int 0))) (.cmp .Lt (.var 2) (.cst (.int 0)))) (.cons (.bin .Mult (.bin .Sub (.cmp .Gt (.var 3) (.cst (.int 0))) (.cmp .Lt (.var 3) (.cst (.int 0)))) (.blt .int (.cons (.cmp .Gt (.idx (.var 0) (.cst (.int 3))) (.cst (.int 0))) .nil))) .nil))) (.cons (.iff (.oo (.cmp .Eq (.var 4) (.var 5)) (.oo (.cmp .Eq (.var 5) (.cst (.int 0))) (.cmp .Eq (.var 4) (.cst (.int 0))))) (.cons (.ret (.ife (.cmp .Eq (.var 5) (.cst (.int 0))) (.var 4) (.var 5))) .nil) .nil) (.cons (.asg (.tn 1) (.bin .Sub (.bin .Mult (.var 2) (.var 2)) (.bin .Mult (.bin .Mult (.var 3) (.var 3)) (.idx (.var 0) (.cst (.int 3)))))) (.cons (.ret (.bin .Mult (.var 4) (.bin .Sub (.cmp .Gt (.var 1) (.cst (.int 0))) (.cmp .Lt (.var 1) (.cst (.int 0)))))) .nil))))), false, []⟩
def N44 : List Str := ["one", "far", "p", "q", "first", "second"]
def p44 : List Str := ["one"]
def D44 : He.FnD := ⟨("_law_sign", none), "_law_sign", "_law_sign", defArgs (top 57), defBody (top 57), defScope (top 57)⟩
/-- _law_is_field -/
def d45 : Fd := ⟨2, 2, (.cons (.iff (.oo (.cmp .Eq (.idx (.var 0) (.cst (.int 3))) (.cst (.int 0))) (.oo (.cmp .Eq (.idx (.var 1) (.cst (.int 3))) (.cst (.int 0))) (.oo (.cmp .Eq (.idx (.var 0) (.cst (.int 1))) (.cst (.int 0))) (.cmp .Eq (.idx (.var 1) (.cst (.int 1))) (.cst (.int 0)))))) (.cons (.ret (.cst (.bl true))) .nil) .nil) (.cons (.ret (.cmp .Eq (.bin .Pow (.call 36 (.cons (.bin .Mult (.idx (.var 0) (.cst (.int 3))) (.idx (.var 1) (.cst (.int 3)))) .nil)) (.cst (.int 2))) (.bin .Mult (.idx (.var 0) (.cst (.int 3))) (.idx (.var 1) (.cst (.int 3)))))) .nil)), false, []⟩
def N45 : List Str := ["one", "other"]
def p45 : List Str := ["one", "other"]
def D45 : He.FnD := ⟨("_law_is_field", none), "_law_is_field", "_law_is_field", defArgs (top 58), defBody (top 58), defScope (top 58)⟩
/-- _law_floor -/
def d46 : Fd := ⟨2, 8, (.cons (.par [5, 6, 7] (.cons (.bin .Mult (.idx (.var 0) (.cst (.int 0))) (.var 1)) (.cons (.bin .Mult (.idx (.var 0) (.cst (.int 1))) (.var 1)) (.cons (.idx (.var 0) (.cst (.int 2))) .nil)))) (.cons (.iff (.cmp .Lt (.var 7) (.cst (.int 0))) (.cons (.par [5, 6, 7] (.cons (.neg (.var 5)) (.cons (.neg (.var 6)) (.cons (.neg (.var 7)) .nil)))) .nil) .nil) (.cons (.asg (.tn 2) (.bin .Mult (.bin .Mult (.var 6) (.var 6)) (.idx (.var 0) (.cst (.int 3))))) (.cons (.asg (.tn 3) (.call 36 (.cons (.var 2) .nil))) (.cons (.asg (.tn 4) (.ife (.cmp .GtE (.var 6) (.cst (.int 0))) (.var 3) (.bin .Sub (.neg (.var 3)) (.blt .int (.cons (.cmp .NotEq (.bin .Mult (.var 3) (.var 3)) (.var 2)) .nil))))) (.cons (.ret (.bin .FloorDiv (.bin .Add (.var 5) (.var 4)) (.var 7))) .nil)))))), false, []⟩
def N46 : List Str := ["one", "fine", "whole", "near", "low", "p", "q", "r"]
def p46 : List Str := ["one", "fine"]
def D46 : He.FnD := ⟨("_law_floor", none), "_law_floor", "_law_floor", defArgs (top 59), defBody (top 59), defScope (top 59)⟩
/-- _law_compare -/
def d47 : Fd := ⟨2, 5, (.cons (.iff (.call 45 (.cons (.var 0) (.cons (.var 1) .nil))) (.cons (.ret (.call 44 (.cons (.call 42 (.cons (.var 0) (.cons (.call 43 (.cons (.var 1) .nil)) .nil))) .nil))) .nil) .nil) (.cons (.asg (.tn 2) (.cst (.int 1))) (.cons (.whl (.cst (.bl true)) (.cons (.par [3, 4] (.cons (.call 46 (.cons (.var 0) (.cons (.var 2) .nil))) (.cons (.call 46 (.cons (.var 1) (.cons (.var 2) .nil))) .nil))) (.cons (.iff (.cmp .NotEq (.var 3) (.var 4)) (.cons (.ret (.ife (.cmp .Lt (.var 3) (.var 4)) (.neg (.cst (.int 1))) (.cst (.int 1)))) .nil) .nil) (.cons (.asg (.tn 2) (.bin .Mult (.var 2) (.cst (.int 1024)))) .nil)))) .nil))), false, []⟩
def N47 : List Str := ["one", "other", "fine", "mine", "its"]
def p47 : List Str := ["one", "other"]
def D47 : He.FnD := ⟨("_law_compare", none), "_law_compare", "_law_compare", defArgs (top 60), defBody (top 60), defScope (top 60)⟩
/-- _law_part -/
def d48 : Fd := ⟨2, 2, (.cons (.ret (.call 35 (.cons (.bin .Sub (.blt .int (.cons (.call 28 (.cons (.var 0) (.cons (.bin .Add (.bin .Mult (.cst (.int 2)) (.var 1)) (.cst (.int 1))) .nil))) .nil)) (.var 1)) (.cons (.bin .Add (.cst (.int 1)) (.blt .int (.cons (.call 28 (.cons (.var 0) (.cons (.call 29 (.cons (.var 0) (.cons (.lst (.cons (.cst (.int 1)) (.cons (.cst (.int 1)) (.cons (.cst (.int 2)) (.cons (.cst (.int 4)) .nil))))) .nil))) .nil))) .nil))) .nil)))) .nil), false, []⟩
def N48 : List Str := ["pot", "most"]
def p48 : List Str := ["pot", "most"]
def D48 : He.FnD := ⟨("_law_part", none), "_law_part", "_law_part", defArgs (top 61), defBody (top 61), defScope (top 61)⟩
/-- _law_number_drawn -/
def d49 : Fd := ⟨1, 4, (.cons (.par [2, 3] (.cons (.call 48 (.cons (.var 0) (.cons (.cst (.int 9)) .nil))) (.cons (.call 48 (.cons (.var 0) (.cons (.cst (.int 9)) .nil))) .nil))) (.cons (.asg (.tn 1) (.call 29 (.cons (.var 0) (.cons (.lst (.cons (.cst (.int 0)) (.cons (.cst (.int 2)) (.cons (.cst (.int 3)) (.cons (.cst (.int 5)) (.cons (.cst (.int 8)) (.cons (.cst (.int 11)) (.cons (.cst (.int 15)) .nil)))))))) .nil)))) (.cons (.ret (.call 38 (.cons (.tup (.cons (.bin .Mult (.idx (.var 2) (.cst (.int 0))) (.idx (.var 3) (.cst (.int 1)))) (.cons (.bin .Mult (.idx (.var 3) (.cst (.int 0))) (.idx (.var 2) (.cst (.int 1)))) (.cons (.bin .Mult (.idx (.var 2) (.cst (.int 1))) (.idx (.var 3) (.cst (.int 1)))) (.cons (.var 1) .nil))))) .nil))) .nil))), false, []⟩
def N49 : List Str := ["pot", "d", "first", "second"]
def p49 : List Str := ["pot"]
def D49 : He.FnD := ⟨("_law_number_drawn", none), "_law_number_drawn", "_law_number_drawn", defArgs (top 62), defBody (top 62), defScope (top 62)⟩
/-- _law_between -/
def d50 : Fd := ⟨2, 4, (.cons (.asg (.tn 2) (.cst (.int 1))) (.cons (.whl (.cst (.bl true)) (.cons (.asg (.tn 3) (.call 35 (.cons (.bin .Add (.call 46 (.cons (.var 0) (.cons (.var 2) .nil))) (.cst (.int 1))) (.cons (.var 2) .nil)))) (.cons (.iff (.cmp .Lt (.call 47 (.cons (.call 37 (.cons (.var 3) .nil)) (.cons (.var 1) .nil))) (.cst (.int 0))) (.cons (.ret (.var 3)) .nil) .nil) (.cons (.asg (.tn 2) (.bin .Mult (.var 2) (.cst (.int 2)))) .nil)))) .nil)), false, []⟩
def N50 : List Str := ["one", "other", "fine", "found"]
def p50 : List Str := ["one", "other"]
def D50 : He.FnD := ⟨("_law_between", none), "_law_between", "_law_between", defArgs (top 63), defBody (top 63), defScope (top 63)⟩
/-- _law_is_pair_right -/
def d51 : Fd := ⟨3, 8, (.cons (.par [5, 6] (.cons (.call 37 (.cons (.var 1) .nil)) (.cons (.call 37 (.cons (.var 2) .nil)) .nil))) (.cons (.asg (.tn 3) (.call 47 (.cons (.var 5) (.cons (.var 6) .nil)))) (.cons (.iff (.oo (.cmp .NotEq (.rpx (.callk 21 (.cons (.var 1) .nil) (.cons (.var 2) .nil) [0, 1])) (.rpx (.var 3))) (.nt (.call 32 (.cons (.callk 20 (.cons (.var 1) .nil) (.cons (.var 2) .nil) [0, 1]) (.cons (.cmp .Lt (.var 3) (.cst (.int 0))) .nil))))) (.cons (.ret (.cst (.bl false))) .nil) .nil) (.cons (.iff (.cmp .NotEq (.call 21 (.cons (.var 2) (.cons (.var 1) .nil))) (.neg (.var 3))) (.cons (.ret (.cst (.bl false))) .nil) .nil) (.cons (.iff (.an (.cmp .Lt (.var 3) (.cst (.int 0))) (.cmp .NotEq (.rpx (.callk 25 (.cons (.var 1) .nil) (.cons (.var 2) .nil) [0, 1])) (.rpx (.call 50 (.cons (.var 5) (.cons (.var 6) .nil)))))) (.cons (.ret (.cst (.bl false))) .nil) .nil) (.cons (.iff (.cmp .GtE (.var 3) (.cst (.int 0))) (.cons (.asg (.tn 7) (.idx (.call 31 (.cons (.lam 0) .nil)) (.cst (.int 0)))) (.cons (.iff (.oo (.nt (.isx 3 (.var 7))) (.cmp .NotEq (.attr (.var 7)) (.var 2))) (.cons (.ret (.cst (.bl false))) .nil) .nil) .nil)) .nil) (.cons (.asg (.tn 4) (.blt .int (.cons (.call 29 (.cons (.var 0) (.cons (.lst (.cons (.cst (.int 1)) (.cons (.cst (.int 2)) (.cons (.cst (.int 10)) (.cons (.bin .Add (.cst (.int 1)) (.call 28 (.cons (.var 0) (.cons (.cst (.int 1000)) .nil)))) (.cons (.bin .Pow (.cst (.int 10)) (.cst (.int 6))) .nil)))))) .nil))) .nil))) (.cons (.iff (.cmp .NotEq (.rpx (.callk 22 .nil (.cons (.var 1) .nil) [0])) (.rpx (.call 46 (.cons (.var 5) (.cons (.cst (.int 1)) .nil))))) (.cons (.ret (.cst (.bl false))) .nil) .nil) (.cons (.ret (.cmp .Eq (.rpx (.callk 24 (.cons (.var 1) .nil) (.cons (.var 4) .nil) [0, 1])) (.rpx (.call 35 (.cons (.call 46 (.cons (.var 5) (.cons (.var 4) .nil))) (.cons (.var 4) .nil)))))) .nil))))))))), true, [1, 2]⟩
def N51 : List Str := ["pot", "one", "other", "due", "fine", "mine", "its", "caught"]
def p51 : List Str := ["pot", "one", "other"]
def D51 : He.FnD := ⟨("_law_is_pair_right", none), "_law_is_pair_right", "_law_is_pair_right", defArgs (top 64), defBody (top 64), defScope (top 64)⟩
/-- _law_are_refused -/
def d52 : Fd := ⟨1, 3, (.cons (.asg (.tn 1) (.call 29 (.cons (.var 0) (.cons (.lst (.cons (.cst .non) (.cons (.tup (.cons (.cst (.int 1)) (.cons (.cst (.int 0)) (.cons (.neg (.cst (.int 4))) (.cons (.cst (.int 1)) .nil))))) (.cons (.tup (.cons (.cst (.int 2)) (.cons (.cst (.int 0)) (.cons (.neg (.cst (.int 4))) (.cons (.cst (.int 1)) .nil))))) (.cons (.tup (.cons (.cst (.int 1)) (.cons (.cst (.int 0)) (.cons (.cst (.int 2)) (.cons (.cst (.int 1)) .nil))))) (.cons (.lst (.cons (.cst (.int 1)) (.cons (.cst (.int 0)) (.cons (.neg (.cst (.int 2))) (.cons (.cst (.int 1)) .nil))))) (.cons (.tup (.cons (.cst (.int 1)) (.cons (.cst (.int 0)) .nil))) (.cons (.cst (.int 1)) (.cons (.cst (.str "1")) .nil))))))))) .nil)))) (.cons (.asg (.tn 2) (.lst (.cons (.lam 1) .nil))) (.cons (.app (.var 2) (.lam 2)) (.cons (.app (.var 2) (.lam 3)) (.cons (.app (.var 2) (.lam 4)) (.cons (.app (.var 2) (.lam 5)) (.cons (.iff (.nt (.call 33 (.cons (.var 2) (.cons (.lam 6) (.cons (.var 1) .nil))))) (.cons (.ret (.cst (.bl false))) .nil) .nil) (.cons (.asg (.tn 1) (.call 29 (.cons (.var 0) (.cons (.lst (.cons (.cst .non) (.cons (.cst (.int 0)) (.cons (.bin .Add (.bin .Pow (.cst (.int 10)) (.cst (.int 6))) (.cst (.int 1))) (.cons (.cst (.bl true)) (.cons (.cst (.str "1")) .nil)))))) .nil)))) (.cons (.asg (.tn 2) (.lst (.cons (.lam 7) .nil))) (.cons (.ret (.call 33 (.cons (.var 2) (.cons (.lam 8) (.cons (.var 1) .nil))))) .nil)))))))))), true, [1]⟩
def N52 : List Str := ["pot", "odd", "looks"]
def p52 : List Str := ["pot"]
def D52 : He.FnD := ⟨("_law_are_refused", none), "_law_are_refused", "_law_are_refused", defArgs (top 65), defBody (top 65), defScope (top 65)⟩
/-- _law_right -/
def d53 : Fd := ⟨1, 4, (.cons (.fo (.tn 1) (.rng1 (.cst (.int 8))) (.cons (.iff (.nt (.call 51 (.cons (.var 0) (.cons (.call 49 (.cons (.var 0) .nil)) (.cons (.call 49 (.cons (.var 0) .nil)) .nil))))) (.cons (.ret (.cst (.bl false))) .nil) .nil) .nil)) (.cons (.asg (.tn 2) (.call 38 (.cons (.tup (.cons (.bin .Sub (.blt .int (.cons (.call 28 (.cons (.var 0) (.cons (.cst (.int 9)) .nil))) .nil)) (.cst (.int 4))) (.cons (.cst (.int 1)) (.cons (.cst (.int 1)) (.cons (.call 29 (.cons (.var 0) (.cons (.lst (.cons (.cst (.int 2)) (.cons (.cst (.int 3)) (.cons (.cst (.int 7)) .nil)))) .nil))) .nil))))) .nil))) (.cons (.asg (.tn 3) (.call 35 (.cons (.call 46 (.cons (.call 37 (.cons (.var 2) .nil)) (.cons (.cst (.int 997)) .nil))) (.cons (.cst (.int 997)) .nil)))) (.cons (.iff (.oo (.nt (.call 51 (.cons (.var 0) (.cons (.var 2) (.cons (.var 3) .nil))))) (.nt (.call 51 (.cons (.var 0) (.cons (.var 3) (.cons (.var 2) .nil)))))) (.cons (.ret (.cst (.bl false))) .nil) .nil) (.cons (.ret (.an (.call 51 (.cons (.var 0) (.cons (.var 2) (.cons (.var 2) .nil)))) (.call 52 (.cons (.var 0) .nil)))) .nil))))), false, []⟩
def N53 : List Str := ["pot", "lap", "one", "near"]
def p53 : List Str := ["pot"]
def D53 : He.FnD := ⟨("_law_right", none), "_law_right", "_law_right", defArgs (top 66), defBody (top 66), defScope (top 66)⟩
/-- law -/
def d54 : Fd := ⟨1, 2, (.cons (.ret (.blt .all (.cons (.lc [1] (.tn 1) (.call 30 (.cons (.var 0) (.cons (.cst (.int 3)) .nil))) .nil (.call 53 (.cons (.call 27 (.cons (.var 0) (.cons (.var 1) .nil))) .nil))) .nil))) .nil), false, []⟩
def N54 : List Str := ["script", "place"]
def p54 : List Str := ["script"]
def D54 : He.FnD := ⟨("law", none), "law", "law", defArgs (top 67), defBody (top 67), defScope (top 67)⟩
def prog : Pg := ⟨d0 :: d1 :: d2 :: d3 :: d4 :: d5 :: d6 :: d7 :: d8 :: d9 :: d10 :: d11 :: d12 :: d13 :: d14 :: d15 :: d16 :: d17 :: d18 :: d19 :: d20 :: d21 :: d22 :: d23 :: d24 :: d25 :: d26 :: d27 :: d28 :: d29 :: d30 :: d31 :: d32 :: d33 :: d34 :: d35 :: d36 :: d37 :: d38 :: d39 :: d40 :: d41 :: d42 :: d43 :: d44 :: d45 :: d46 :: d47 :: d48 :: d49 :: d50 :: d51 :: d52 :: d53 :: d54 :: [], lams, [(.tup [(.int 0), (.int 1)]), (.int 10000000000000000000000000000000000000000000000000000000000000000000000000000000000000000000000000000000000000000000000000000000000000000000000000000000000000000000000000000000000000000000000000000000000000000000000000000000000000000000000000000000000000000000000000000000000000000000000000000000000000000000000000000000000000000000000000000000000000000000000000000000000000000000000000000000000000000), (.int 1000000)], lmd.map (·.caps), subP 4, cnmP nms, 0⟩
def fnD : List He.FnD := D0 :: D1 :: D2 :: D3 :: D4 :: D5 :: D6 :: D7 :: D8 :: D9 :: D10 :: D11 :: D12 :: D13 :: D14 :: D15 :: D16 :: D17 :: D18 :: D19 :: D20 :: D21 :: D22 :: D23 :: D24 :: D25 :: D26 :: D27 :: D28 :: D29 :: D30 :: D31 :: D32 :: D33 :: D34 :: D35 :: D36 :: D37 :: D38 :: D39 :: D40 :: D41 :: D42 :: D43 :: D44 :: D45 :: D46 :: D47 :: D48 :: D49 :: D50 :: D51 :: D52 :: D53 :: D54 :: []
end K01
set_option linter.all false
set_option maxRecDepth 100000
set_option maxHeartbeats 0
namespace K01
open PySem PySem.Spec PyProof.Rows L2 EV
theorem T0 : DefT nms flg 0 "is_int" d0 D0 p0 := ⟨rfl, ⟨N0, ⟨rfl, rfl, rfl, by decide +kernel, rfl, by decide +kernel, by decide +kernel⟩, rfl, by decide +kernel, fun z => by cases z⟩, rfl, fun _ _ _ _ _ _ us hl => match us, hl with | [_, _, _], _ => rfl, ⟨fun z => absurd z (by decide), ⟨fun z => absurd z (by decide), ⟨fun z => absurd z (by decide), ⟨fun z => absurd z (by decide), ⟨fun z => absurd z (by decide), trivial⟩⟩⟩⟩⟩, fun z => by cases z⟩
theorem T1 : DefT nms flg 1 "is_whole" d1 D1 p1 := ⟨rfl, ⟨N1, ⟨rfl, rfl, rfl, by decide +kernel, rfl, by decide +kernel, by decide +kernel⟩, rfl, by decide +kernel, fun z => by cases z⟩, rfl, fun _ _ _ _ _ _ us hl => match us, hl with | [_], _ => rfl, ⟨fun z => absurd z (by decide), ⟨fun z => absurd z (by decide), ⟨fun z => absurd z (by decide), ⟨fun z => absurd z (by decide), ⟨fun z => absurd z (by decide), trivial⟩⟩⟩⟩⟩, fun z => by cases z⟩
theorem T2 : DefT nms flg 2 "whole_root" d2 D2 p2 := ⟨rfl, ⟨N2, ⟨rfl, rfl, rfl, by decide +kernel, rfl, by decide +kernel, by decide +kernel⟩, rfl, by decide +kernel, fun z => by cases z⟩, rfl, fun _ _ _ _ _ _ us hl => match us, hl with | [_], _ => rfl, ⟨fun z => absurd z (by decide), ⟨fun z => absurd z (by decide), ⟨fun z => absurd z (by decide), ⟨fun z => absurd z (by decide), ⟨fun z => absurd z (by decide), trivial⟩⟩⟩⟩⟩, fun z => by cases z⟩
theorem T3 : DefT nms flg 3 "common" d3 D3 p3 := ⟨rfl, ⟨N3, ⟨rfl, rfl, rfl, by decide +kernel, rfl, by decide +kernel, by decide +kernel⟩, rfl, by decide +kernel, fun z => by cases z⟩, rfl, fun _ _ _ _ _ _ us hl => match us, hl with | [_, _], _ => rfl, ⟨fun z => absurd z (by decide), ⟨fun z => absurd z (by decide), ⟨fun z => absurd z (by decide), ⟨fun z => absurd z (by decide), ⟨fun z => absurd z (by decide), trivial⟩⟩⟩⟩⟩, fun z => by cases z⟩
theorem T4 : DefT nms flg 4 "rate" d4 D4 p4 := ⟨rfl, ⟨N4, ⟨rfl, rfl, rfl, by decide +kernel, rfl, by decide +kernel, by decide +kernel⟩, rfl, by decide +kernel, fun z => by cases z⟩, rfl, fun _ _ _ _ _ _ us hl => match us, hl with | [_, _], _ => rfl, ⟨fun z => absurd z (by decide), ⟨fun z => absurd z (by decide), ⟨fun z => absurd z (by decide), ⟨fun z => absurd z (by decide), ⟨fun z => absurd z (by decide), trivial⟩⟩⟩⟩⟩, fun z => by cases z⟩
theorem T5 : DefT nms flg 5 "is_lowest" d5 D5 p5 := ⟨rfl, ⟨N5, ⟨rfl, rfl, rfl, by decide +kernel, rfl, by decide +kernel, by decide +kernel⟩, rfl, by decide +kernel, fun z => by cases z⟩, rfl, fun _ _ _ _ _ _ us hl => match us, hl with | [_], _ => rfl, ⟨fun z => absurd z (by decide), ⟨fun z => absurd z (by decide), ⟨fun z => absurd z (by decide), ⟨fun z => absurd z (by decide), ⟨fun z => absurd z (by decide), trivial⟩⟩⟩⟩⟩, fun z => by cases z⟩
theorem T6 : DefT nms flg 6 "is_told_int" d6 D6 p6 := ⟨rfl, ⟨N6, ⟨rfl, rfl, rfl, by decide +kernel, rfl, by decide +kernel, by decide +kernel⟩, rfl, by decide +kernel, fun z => by cases z⟩, rfl, fun _ _ _ _ _ _ us hl => match us, hl with | [_], _ => rfl, ⟨fun z => absurd z (by decide), ⟨fun z => absurd z (by decide), ⟨fun z => absurd z (by decide), ⟨fun z => absurd z (by decide), ⟨fun z => absurd z (by decide), trivial⟩⟩⟩⟩⟩, fun z => by cases z⟩
theorem T7 : DefT nms flg 7 "plus" d7 D7 p7 := ⟨rfl, ⟨N7, ⟨rfl, rfl, rfl, by decide +kernel, rfl, by decide +kernel, by decide +kernel⟩, rfl, by decide +kernel, fun z => by cases z⟩, rfl, fun _ _ _ _ _ _ us hl => match us, hl with | [_, _], _ => rfl, ⟨fun z => absurd z (by decide), ⟨fun z => absurd z (by decide), ⟨fun z => absurd z (by decide), ⟨fun z => absurd z (by decide), ⟨fun z => absurd z (by decide), trivial⟩⟩⟩⟩⟩, fun z => by cases z⟩
theorem T8 : DefT nms flg 8 "times" d8 D8 p8 := ⟨rfl, ⟨N8, ⟨rfl, rfl, rfl, by decide +kernel, rfl, by decide +kernel, by decide +kernel⟩, rfl, by decide +kernel, fun z => by cases z⟩, rfl, fun _ _ _ _ _ _ us hl => match us, hl with | [_, _], _ => rfl, ⟨fun z => absurd z (by decide), ⟨fun z => absurd z (by decide), ⟨fun z => absurd z (by decide), ⟨fun z => absurd z (by decide), ⟨fun z => absurd z (by decide), trivial⟩⟩⟩⟩⟩, fun z => by cases z⟩
theorem T9 : DefT nms flg 9 "plain" d9 D9 p9 := ⟨rfl, ⟨N9, ⟨rfl, rfl, rfl, by decide +kernel, rfl, by decide +kernel, by decide +kernel⟩, rfl, by decide +kernel, fun z => by cases z⟩, rfl, fun _ _ _ _ _ _ us hl => match us, hl with | [_], _ => rfl, ⟨fun z => absurd z (by decide), ⟨fun z => absurd z (by decide), ⟨fun z => absurd z (by decide), ⟨fun z => absurd z (by decide), ⟨fun z => absurd z (by decide), trivial⟩⟩⟩⟩⟩, fun z => by cases z⟩
theorem T10 : DefT nms flg 10 "made" d10 D10 p10 := ⟨rfl, ⟨N10, ⟨rfl, rfl, rfl, by decide +kernel, rfl, by decide +kernel, by decide +kernel⟩, rfl, by decide +kernel, fun z => by cases z⟩, rfl, fun _ _ _ _ _ _ us hl => match us, hl with | [_, _, _], _ => rfl, ⟨fun z => absurd z (by decide), ⟨fun z => absurd z (by decide), ⟨fun z => absurd z (by decide), ⟨fun z => absurd z (by decide), ⟨fun z => absurd z (by decide), trivial⟩⟩⟩⟩⟩, fun z => by cases z⟩
theorem T11 : DefT nms flg 11 "scaled" d11 D11 p11 := ⟨rfl, ⟨N11, ⟨rfl, rfl, rfl, by decide +kernel, rfl, by decide +kernel, by decide +kernel⟩, rfl, by decide +kernel, fun z => by cases z⟩, rfl, fun _ _ _ _ _ _ us hl => match us, hl with | [_, _], _ => rfl, ⟨fun z => absurd z (by decide), ⟨fun z => absurd z (by decide), ⟨fun z => absurd z (by decide), ⟨fun z => absurd z (by decide), ⟨fun z => absurd z (by decide), trivial⟩⟩⟩⟩⟩, fun z => by cases z⟩
theorem T12 : DefT nms flg 12 "sign_of_int" d12 D12 p12 := ⟨rfl, ⟨N12, ⟨rfl, rfl, rfl, by decide +kernel, rfl, by decide +kernel, by decide +kernel⟩, rfl, by decide +kernel, fun z => by cases z⟩, rfl, fun _ _ _ _ _ _ us hl => match us, hl with | [_], _ => rfl, ⟨fun z => absurd z (by decide), ⟨fun z => absurd z (by decide), ⟨fun z => absurd z (by decide), ⟨fun z => absurd z (by decide), ⟨fun z => absurd z (by decide), trivial⟩⟩⟩⟩⟩, fun z => by cases z⟩
theorem T13 : DefT nms flg 13 "sign_under" d13 D13 p13 := ⟨rfl, ⟨N13, ⟨rfl, rfl, rfl, by decide +kernel, rfl, by decide +kernel, by decide +kernel⟩, rfl, by decide +kernel, fun z => by cases z⟩, rfl, fun _ _ _ _ _ _ us hl => match us, hl with | [_, _, _], _ => rfl, ⟨fun z => absurd z (by decide), ⟨fun z => absurd z (by decide), ⟨fun z => absurd z (by decide), ⟨fun z => absurd z (by decide), ⟨fun z => absurd z (by decide), trivial⟩⟩⟩⟩⟩, fun z => by cases z⟩
theorem T14 : DefT nms flg 14 "is_root" d14 D14 p14 := ⟨rfl, ⟨N14, ⟨rfl, rfl, rfl, by decide +kernel, rfl, by decide +kernel, by decide +kernel⟩, rfl, by decide +kernel, fun z => by cases z⟩, rfl, fun _ _ _ _ _ _ us hl => match us, hl with | [_], _ => rfl, ⟨fun z => absurd z (by decide), ⟨fun z => absurd z (by decide), ⟨fun z => absurd z (by decide), ⟨fun z => absurd z (by decide), ⟨fun z => absurd z (by decide), trivial⟩⟩⟩⟩⟩, fun z => by cases z⟩
theorem T15 : DefT nms flg 15 "is_number" d15 D15 p15 := ⟨rfl, ⟨N15, ⟨rfl, rfl, rfl, by decide +kernel, rfl, by decide +kernel, by decide +kernel⟩, rfl, by decide +kernel, fun z => by cases z⟩, rfl, fun _ _ _ _ _ _ us hl => match us, hl with | [_], _ => rfl, ⟨fun z => absurd z (by decide), ⟨fun z => absurd z (by decide), ⟨fun z => absurd z (by decide), ⟨fun z => absurd z (by decide), ⟨fun z => absurd z (by decide), trivial⟩⟩⟩⟩⟩, fun z => by cases z⟩
theorem T16 : DefT nms flg 16 "look_at_number" d16 D16 p16 := ⟨rfl, ⟨N16, ⟨rfl, rfl, rfl, by decide +kernel, rfl, by decide +kernel, by decide +kernel⟩, rfl, by decide +kernel, fun z => by cases z⟩, rfl, fun _ _ _ _ _ _ us hl => match us, hl with | [_], _ => rfl, ⟨fun z => absurd z (by decide), ⟨fun z => absurd z (by decide), ⟨fun z => absurd z (by decide), ⟨fun z => absurd z (by decide), ⟨fun z => absurd z (by decide), trivial⟩⟩⟩⟩⟩, fun z => by cases z⟩
theorem T17 : DefT nms flg 17 "element" d17 D17 p17 := ⟨rfl, ⟨N17, ⟨rfl, rfl, rfl, by decide +kernel, rfl, by decide +kernel, by decide +kernel⟩, rfl, by decide +kernel, fun z => by cases z⟩, rfl, fun _ _ _ _ _ _ us hl => match us, hl with | [_], _ => rfl, ⟨fun z => absurd z (by decide), ⟨fun z => absurd z (by decide), ⟨fun z => absurd z (by decide), ⟨fun z => absurd z (by decide), ⟨fun z => absurd z (by decide), trivial⟩⟩⟩⟩⟩, fun z => by cases z⟩
theorem T18 : DefT nms flg 18 "sign_of_four" d18 D18 p18 := ⟨rfl, ⟨N18, ⟨rfl, rfl, rfl, by decide +kernel, rfl, by decide +kernel, by decide +kernel⟩, rfl, by decide +kernel, fun z => by cases z⟩, rfl, fun _ _ _ _ _ _ us hl => match us, hl with | [_, _, _, _, _, _], _ => rfl, ⟨fun z => absurd z (by decide), ⟨fun z => absurd z (by decide), ⟨fun z => absurd z (by decide), ⟨fun z => absurd z (by decide), ⟨fun z => absurd z (by decide), trivial⟩⟩⟩⟩⟩, fun z => by cases z⟩
theorem T19 : DefT nms flg 19 "sign_between" d19 D19 p19 := ⟨rfl, ⟨N19, ⟨rfl, rfl, rfl, by decide +kernel, rfl, by decide +kernel, by decide +kernel⟩, rfl, by decide +kernel, fun z => by cases z⟩, rfl, fun _ _ _ _ _ _ us hl => match us, hl with | [_, _], _ => rfl, ⟨fun z => absurd z (by decide), ⟨fun z => absurd z (by decide), ⟨fun z => absurd z (by decide), ⟨fun z => absurd z (by decide), ⟨fun z => absurd z (by decide), trivial⟩⟩⟩⟩⟩, fun z => by cases z⟩
theorem T20 : DefT nms flg 20 "is_less_number" d20 D20 p20 := ⟨rfl, ⟨N20, ⟨rfl, rfl, rfl, by decide +kernel, rfl, by decide +kernel, by decide +kernel⟩, rfl, by decide +kernel, fun z => by cases z⟩, rfl, fun _ _ _ _ _ _ us hl => match us, hl with | [_, _], _ => rfl, ⟨fun _ _ _ _ _ _ _ us ws h1 h2 => (match us, ws, h1, h2 with | [_], [_], _, _ => rfl), ⟨fun z => absurd z (by decide), ⟨fun z => absurd z (by decide), ⟨fun z => absurd z (by decide), ⟨fun z => absurd z (by decide), trivial⟩⟩⟩⟩⟩, fun z => by cases z⟩
theorem T21 : DefT nms flg 21 "order_of" d21 D21 p21 := ⟨rfl, ⟨N21, ⟨rfl, rfl, rfl, by decide +kernel, rfl, by decide +kernel, by decide +kernel⟩, rfl, by decide +kernel, fun z => by cases z⟩, rfl, fun _ _ _ _ _ _ us hl => match us, hl with | [_, _], _ => rfl, ⟨fun z => absurd z (by decide), ⟨fun _ _ _ _ _ _ _ us ws h1 h2 => (match us, ws, h1, h2 with | [_], [_], _, _ => rfl), ⟨fun z => absurd z (by decide), ⟨fun z => absurd z (by decide), ⟨fun z => absurd z (by decide), trivial⟩⟩⟩⟩⟩, fun z => by cases z⟩
theorem T22 : DefT nms flg 22 "whole_part" d22 D22 p22 := ⟨rfl, ⟨N22, ⟨rfl, rfl, rfl, by decide +kernel, rfl, by decide +kernel, by decide +kernel⟩, rfl, by decide +kernel, fun z => by cases z⟩, rfl, fun _ _ _ _ _ _ us hl => match us, hl with | [_], _ => rfl, ⟨fun z => absurd z (by decide), ⟨fun z => absurd z (by decide), ⟨fun z => absurd z (by decide), ⟨fun _ _ _ _ _ _ _ us ws h1 h2 => (match us, ws, h1, h2 with | [], [_], _, _ => rfl), ⟨fun z => absurd z (by decide), trivial⟩⟩⟩⟩⟩, fun z => by cases z⟩
theorem T23 : DefT nms flg 23 "told_whole" d23 D23 p23 := ⟨rfl, ⟨N23, ⟨rfl, rfl, rfl, by decide +kernel, rfl, by decide +kernel, by decide +kernel⟩, rfl, by decide +kernel, fun z => by cases z⟩, rfl, fun _ _ _ _ _ _ us hl => match us, hl with | [_], _ => rfl, ⟨fun z => absurd z (by decide), ⟨fun z => absurd z (by decide), ⟨fun z => absurd z (by decide), ⟨fun z => absurd z (by decide), ⟨fun z => absurd z (by decide), trivial⟩⟩⟩⟩⟩, fun z => by cases z⟩
theorem T24 : DefT nms flg 24 "near_to" d24 D24 p24 := ⟨rfl, ⟨N24, ⟨rfl, rfl, rfl, by decide +kernel, rfl, by decide +kernel, by decide +kernel⟩, rfl, by decide +kernel, fun z => by cases z⟩, rfl, fun _ _ _ _ _ _ us hl => match us, hl with | [_, _], _ => rfl, ⟨fun z => absurd z (by decide), ⟨fun z => absurd z (by decide), ⟨fun z => absurd z (by decide), ⟨fun z => absurd z (by decide), ⟨fun _ _ _ _ _ _ _ us ws h1 h2 => (match us, ws, h1, h2 with | [_], [_], _, _ => rfl), trivial⟩⟩⟩⟩⟩, fun z => by cases z⟩
theorem T25 : DefT nms flg 25 "between_numbers" d25 D25 p25 := ⟨rfl, ⟨N25, ⟨rfl, rfl, rfl, by decide +kernel, rfl, by decide +kernel, by decide +kernel⟩, rfl, by decide +kernel, fun z => by cases z⟩, rfl, fun _ _ _ _ _ _ us hl => match us, hl with | [_, _], _ => rfl, ⟨fun z => absurd z (by decide), ⟨fun z => absurd z (by decide), ⟨fun _ _ _ _ _ _ _ us ws h1 h2 => (match us, ws, h1, h2 with | [_], [_], _, _ => rfl), ⟨fun z => absurd z (by decide), ⟨fun z => absurd z (by decide), trivial⟩⟩⟩⟩⟩, fun z => by cases z⟩
theorem T26 : DefT nms flg 26 "told_fraction_between" d26 D26 p26 := ⟨rfl, ⟨N26, ⟨rfl, rfl, rfl, by decide +kernel, rfl, by decide +kernel, by decide +kernel⟩, rfl, by decide +kernel, fun z => by cases z⟩, rfl, fun _ _ _ _ _ _ us hl => match us, hl with | [_, _], _ => rfl, ⟨fun z => absurd z (by decide), ⟨fun z => absurd z (by decide), ⟨fun z => absurd z (by decide), ⟨fun z => absurd z (by decide), ⟨fun z => absurd z (by decide), trivial⟩⟩⟩⟩⟩, fun z => by cases z⟩
theorem T27 : DefT nms flg 27 "_law_pot" d27 D27 p27 := ⟨rfl, ⟨N27, ⟨rfl, rfl, rfl, by decide +kernel, rfl, by decide +kernel, by decide +kernel⟩, rfl, by decide +kernel, fun z => by cases z⟩, rfl, fun _ _ _ _ _ _ us hl => match us, hl with | [_, _], _ => rfl, ⟨fun z => absurd z (by decide), ⟨fun z => absurd z (by decide), ⟨fun z => absurd z (by decide), ⟨fun z => absurd z (by decide), ⟨fun z => absurd z (by decide), trivial⟩⟩⟩⟩⟩, fun z => by cases z⟩
theorem T28 : DefT nms flg 28 "_law_take" d28 D28 p28 := ⟨rfl, ⟨N28, ⟨rfl, rfl, rfl, by decide +kernel, rfl, by decide +kernel, by decide +kernel⟩, rfl, by decide +kernel, fun z => by cases z⟩, rfl, fun _ _ _ _ _ _ us hl => match us, hl with | [_, _], _ => rfl, ⟨fun z => absurd z (by decide), ⟨fun z => absurd z (by decide), ⟨fun z => absurd z (by decide), ⟨fun z => absurd z (by decide), ⟨fun z => absurd z (by decide), trivial⟩⟩⟩⟩⟩, fun z => by cases z⟩
theorem T29 : DefT nms flg 29 "_law_of" d29 D29 p29 := ⟨rfl, ⟨N29, ⟨rfl, rfl, rfl, by decide +kernel, rfl, by decide +kernel, by decide +kernel⟩, rfl, by decide +kernel, fun z => by cases z⟩, rfl, fun _ _ _ _ _ _ us hl => match us, hl with | [_, _], _ => rfl, ⟨fun z => absurd z (by decide), ⟨fun z => absurd z (by decide), ⟨fun z => absurd z (by decide), ⟨fun z => absurd z (by decide), ⟨fun z => absurd z (by decide), trivial⟩⟩⟩⟩⟩, fun z => by cases z⟩
theorem T30 : DefT nms flg 30 "_law_cells" d30 D30 p30 := ⟨rfl, ⟨N30, ⟨rfl, rfl, rfl, by decide +kernel, rfl, by decide +kernel, by decide +kernel⟩, rfl, by decide +kernel, fun z => by cases z⟩, rfl, fun _ _ _ _ _ _ us hl => match us, hl with | [_, _], _ => rfl, ⟨fun z => absurd z (by decide), ⟨fun z => absurd z (by decide), ⟨fun z => absurd z (by decide), ⟨fun z => absurd z (by decide), ⟨fun z => absurd z (by decide), trivial⟩⟩⟩⟩⟩, fun z => by cases z⟩
theorem T31 : DefT nms flg 31 "_law_heard" d31 D31 p31 := ⟨rfl, ⟨N31, ⟨rfl, rfl, rfl, by decide +kernel, rfl, by decide +kernel, by decide +kernel⟩, rfl, by decide +kernel, fun z => by cases z⟩, rfl, fun _ _ _ _ _ _ us hl => match us, hl with | [_], _ => rfl, ⟨fun z => absurd z (by decide), ⟨fun z => absurd z (by decide), ⟨fun z => absurd z (by decide), ⟨fun z => absurd z (by decide), ⟨fun z => absurd z (by decide), trivial⟩⟩⟩⟩⟩, fun z => by cases z⟩
theorem T32 : DefT nms flg 32 "_law_is_bool" d32 D32 p32 := ⟨rfl, ⟨N32, ⟨rfl, rfl, rfl, by decide +kernel, rfl, by decide +kernel, by decide +kernel⟩, rfl, by decide +kernel, fun z => by cases z⟩, rfl, fun _ _ _ _ _ _ us hl => match us, hl with | [_, _], _ => rfl, ⟨fun z => absurd z (by decide), ⟨fun z => absurd z (by decide), ⟨fun z => absurd z (by decide), ⟨fun z => absurd z (by decide), ⟨fun z => absurd z (by decide), trivial⟩⟩⟩⟩⟩, fun z => by cases z⟩
theorem T33 : DefT nms flg 33 "_law_all_refused" d33 D33 p33 := ⟨rfl, ⟨N33, ⟨rfl, rfl, rfl, by decide +kernel, rfl, by decide +kernel, by decide +kernel⟩, rfl, by decide +kernel, fun z => by cases z⟩, rfl, fun _ _ _ _ _ _ us hl => match us, hl with | [_, _, _], _ => rfl, ⟨fun z => absurd z (by decide), ⟨fun z => absurd z (by decide), ⟨fun z => absurd z (by decide), ⟨fun z => absurd z (by decide), ⟨fun z => absurd z (by decide), trivial⟩⟩⟩⟩⟩, fun z => by cases z⟩
theorem T34 : DefT nms flg 34 "_law_gcd" d34 D34 p34 := ⟨rfl, ⟨N34, ⟨rfl, rfl, rfl, by decide +kernel, rfl, by decide +kernel, by decide +kernel⟩, rfl, by decide +kernel, fun z => by cases z⟩, rfl, fun _ _ _ _ _ _ us hl => match us, hl with | [_, _], _ => rfl, ⟨fun z => absurd z (by decide), ⟨fun z => absurd z (by decide), ⟨fun z => absurd z (by decide), ⟨fun z => absurd z (by decide), ⟨fun z => absurd z (by decide), trivial⟩⟩⟩⟩⟩, fun z => by cases z⟩
theorem T35 : DefT nms flg 35 "_law_rate" d35 D35 p35 := ⟨rfl, ⟨N35, ⟨rfl, rfl, rfl, by decide +kernel, rfl, by decide +kernel, by decide +kernel⟩, rfl, by decide +kernel, fun z => by cases z⟩, rfl, fun _ _ _ _ _ _ us hl => match us, hl with | [_, _], _ => rfl, ⟨fun z => absurd z (by decide), ⟨fun z => absurd z (by decide), ⟨fun z => absurd z (by decide), ⟨fun z => absurd z (by decide), ⟨fun z => absurd z (by decide), trivial⟩⟩⟩⟩⟩, fun z => by cases z⟩
theorem T36 : DefT nms flg 36 "_law_root_of" d36 D36 p36 := ⟨rfl, ⟨N36, ⟨rfl, rfl, rfl, by decide +kernel, rfl, by decide +kernel, by decide +kernel⟩, rfl, by decide +kernel, fun z => by cases z⟩, rfl, fun _ _ _ _ _ _ us hl => match us, hl with | [_], _ => rfl, ⟨fun z => absurd z (by decide), ⟨fun z => absurd z (by decide), ⟨fun z => absurd z (by decide), ⟨fun z => absurd z (by decide), ⟨fun z => absurd z (by decide), trivial⟩⟩⟩⟩⟩, fun z => by cases z⟩
theorem T37 : DefT nms flg 37 "_law_el" d37 D37 p37 := ⟨rfl, ⟨N37, ⟨rfl, rfl, rfl, by decide +kernel, rfl, by decide +kernel, by decide +kernel⟩, rfl, by decide +kernel, fun z => by cases z⟩, rfl, fun _ _ _ _ _ _ us hl => match us, hl with | [_], _ => rfl, ⟨fun z => absurd z (by decide), ⟨fun z => absurd z (by decide), ⟨fun z => absurd z (by decide), ⟨fun z => absurd z (by decide), ⟨fun z => absurd z (by decide), trivial⟩⟩⟩⟩⟩, fun z => by cases z⟩
theorem T38 : DefT nms flg 38 "_law_told" d38 D38 p38 := ⟨rfl, ⟨N38, ⟨rfl, rfl, rfl, by decide +kernel, rfl, by decide +kernel, by decide +kernel⟩, rfl, by decide +kernel, fun z => by cases z⟩, rfl, fun _ _ _ _ _ _ us hl => match us, hl with | [_], _ => rfl, ⟨fun z => absurd z (by decide), ⟨fun z => absurd z (by decide), ⟨fun z => absurd z (by decide), ⟨fun z => absurd z (by decide), ⟨fun z => absurd z (by decide), trivial⟩⟩⟩⟩⟩, fun z => by cases z⟩
theorem T39 : DefT nms flg 39 "_law_brought" d39 D39 p39 := ⟨rfl, ⟨N39, ⟨rfl, rfl, rfl, by decide +kernel, rfl, by decide +kernel, by decide +kernel⟩, rfl, by decide +kernel, fun z => by cases z⟩, rfl, fun _ _ _ _ _ _ us hl => match us, hl with | [_, _], _ => rfl, ⟨fun z => absurd z (by decide), ⟨fun z => absurd z (by decide), ⟨fun z => absurd z (by decide), ⟨fun z => absurd z (by decide), ⟨fun z => absurd z (by decide), trivial⟩⟩⟩⟩⟩, fun z => by cases z⟩
theorem T40 : DefT nms flg 40 "_law_both" d40 D40 p40 := ⟨rfl, ⟨N40, ⟨rfl, rfl, rfl, by decide +kernel, rfl, by decide +kernel, by decide +kernel⟩, rfl, by decide +kernel, fun z => by cases z⟩, rfl, fun _ _ _ _ _ _ us hl => match us, hl with | [_, _], _ => rfl, ⟨fun z => absurd z (by decide), ⟨fun z => absurd z (by decide), ⟨fun z => absurd z (by decide), ⟨fun z => absurd z (by decide), ⟨fun z => absurd z (by decide), trivial⟩⟩⟩⟩⟩, fun z => by cases z⟩
theorem T41 : DefT nms flg 41 "_law_tidy" d41 D41 p41 := ⟨rfl, ⟨N41, ⟨rfl, rfl, rfl, by decide +kernel, rfl, by decide +kernel, by decide +kernel⟩, rfl, by decide +kernel, fun z => by cases z⟩, rfl, fun _ _ _ _ _ _ us hl => match us, hl with | [_], _ => rfl, ⟨fun z => absurd z (by decide), ⟨fun z => absurd z (by decide), ⟨fun z => absurd z (by decide), ⟨fun z => absurd z (by decide), ⟨fun z => absurd z (by decide), trivial⟩⟩⟩⟩⟩, fun z => by cases z⟩
theorem T42 : DefT nms flg 42 "_law_sum" d42 D42 p42 := ⟨rfl, ⟨N42, ⟨rfl, rfl, rfl, by decide +kernel, rfl, by decide +kernel, by decide +kernel⟩, rfl, by decide +kernel, fun z => by cases z⟩, rfl, fun _ _ _ _ _ _ us hl => match us, hl with | [_, _], _ => rfl, ⟨fun z => absurd z (by decide), ⟨fun z => absurd z (by decide), ⟨fun z => absurd z (by decide), ⟨fun z => absurd z (by decide), ⟨fun z => absurd z (by decide), trivial⟩⟩⟩⟩⟩, fun z => by cases z⟩
theorem T43 : DefT nms flg 43 "_law_minus" d43 D43 p43 := ⟨rfl, ⟨N43, ⟨rfl, rfl, rfl, by decide +kernel, rfl, by decide +kernel, by decide +kernel⟩, rfl, by decide +kernel, fun z => by cases z⟩, rfl, fun _ _ _ _ _ _ us hl => match us, hl with | [_], _ => rfl, ⟨fun z => absurd z (by decide), ⟨fun z => absurd z (by decide), ⟨fun z => absurd z (by decide), ⟨fun z => absurd z (by decide), ⟨fun z => absurd z (by decide), trivial⟩⟩⟩⟩⟩, fun z => by cases z⟩
theorem T44 : DefT nms flg 44 "_law_sign" d44 D44 p44 := ⟨rfl, ⟨N44, ⟨rfl, rfl, rfl, by decide +kernel, rfl, by decide +kernel, by decide +kernel⟩, rfl, by decide +kernel, fun z => by cases z⟩, rfl, fun _ _ _ _ _ _ us hl => match us, hl with | [_], _ => rfl, ⟨fun z => absurd z (by decide), ⟨fun z => absurd z (by decide), ⟨fun z => absurd z (by decide), ⟨fun z => absurd z (by decide), ⟨fun z => absurd z (by decide), trivial⟩⟩⟩⟩⟩, fun z => by cases z⟩
theorem T45 : DefT nms flg 45 "_law_is_field" d45 D45 p45 := ⟨rfl, ⟨N45, ⟨rfl, rfl, rfl, by decide +kernel, rfl, by decide +kernel, by decide +kernel⟩, rfl, by decide +kernel, fun z => by cases z⟩, rfl, fun _ _ _ _ _ _ us hl => match us, hl with | [_, _], _ => rfl, ⟨fun z => absurd z (by decide), ⟨fun z => absurd z (by decide), ⟨fun z => absurd z (by decide), ⟨fun z => absurd z (by decide), ⟨fun z => absurd z (by decide), trivial⟩⟩⟩⟩⟩, fun z => by cases z⟩
theorem T46 : DefT nms flg 46 "_law_floor" d46 D46 p46 := ⟨rfl, ⟨N46, ⟨rfl, rfl, rfl, by decide +kernel, rfl, by decide +kernel, by decide +kernel⟩, rfl, by decide +kernel, fun z => by cases z⟩, rfl, fun _ _ _ _ _ _ us hl => match us, hl with | [_, _], _ => rfl, ⟨fun z => absurd z (by decide), ⟨fun z => absurd z (by decide), ⟨fun z => absurd z (by decide), ⟨fun z => absurd z (by decide), ⟨fun z => absurd z (by decide), trivial⟩⟩⟩⟩⟩, fun z => by cases z⟩
theorem T47 : DefT nms flg 47 "_law_compare" d47 D47 p47 := ⟨rfl, ⟨N47, ⟨rfl, rfl, rfl, by decide +kernel, rfl, by decide +kernel, by decide +kernel⟩, rfl, by decide +kernel, fun z => by cases z⟩, rfl, fun _ _ _ _ _ _ us hl => match us, hl with | [_, _], _ => rfl, ⟨fun z => absurd z (by decide), ⟨fun z => absurd z (by decide), ⟨fun z => absurd z (by decide), ⟨fun z => absurd z (by decide), ⟨fun z => absurd z (by decide), trivial⟩⟩⟩⟩⟩, fun z => by cases z⟩
theorem T48 : DefT nms flg 48 "_law_part" d48 D48 p48 := ⟨rfl, ⟨N48, ⟨rfl, rfl, rfl, by decide +kernel, rfl, by decide +kernel, by decide +kernel⟩, rfl, by decide +kernel, fun z => by cases z⟩, rfl, fun _ _ _ _ _ _ us hl => match us, hl with | [_, _], _ => rfl, ⟨fun z => absurd z (by decide), ⟨fun z => absurd z (by decide), ⟨fun z => absurd z (by decide), ⟨fun z => absurd z (by decide), ⟨fun z => absurd z (by decide), trivial⟩⟩⟩⟩⟩, fun z => by cases z⟩
theorem T49 : DefT nms flg 49 "_law_number_drawn" d49 D49 p49 := ⟨rfl, ⟨N49, ⟨rfl, rfl, rfl, by decide +kernel, rfl, by decide +kernel, by decide +kernel⟩, rfl, by decide +kernel, fun z => by cases z⟩, rfl, fun _ _ _ _ _ _ us hl => match us, hl with | [_], _ => rfl, ⟨fun z => absurd z (by decide), ⟨fun z => absurd z (by decide), ⟨fun z => absurd z (by decide), ⟨fun z => absurd z (by decide), ⟨fun z => absurd z (by decide), trivial⟩⟩⟩⟩⟩, fun z => by cases z⟩
theorem T50 : DefT nms flg 50 "_law_between" d50 D50 p50 := ⟨rfl, ⟨N50, ⟨rfl, rfl, rfl, by decide +kernel, rfl, by decide +kernel, by decide +kernel⟩, rfl, by decide +kernel, fun z => by cases z⟩, rfl, fun _ _ _ _ _ _ us hl => match us, hl with | [_, _], _ => rfl, ⟨fun z => absurd z (by decide), ⟨fun z => absurd z (by decide), ⟨fun z => absurd z (by decide), ⟨fun z => absurd z (by decide), ⟨fun z => absurd z (by decide), trivial⟩⟩⟩⟩⟩, fun z => by cases z⟩
theorem T51 : DefT nms flg 51 "_law_is_pair_right" d51 D51 p51 := ⟨rfl, ⟨N51, ⟨rfl, rfl, rfl, by decide +kernel, rfl, by decide +kernel, by decide +kernel⟩, rfl, by decide +kernel, fun _ => by decide +kernel⟩, rfl, fun _ _ _ _ _ _ us hl => match us, hl with | [_, _, _], _ => rfl, ⟨fun z => absurd z (by decide), ⟨fun z => absurd z (by decide), ⟨fun z => absurd z (by decide), ⟨fun z => absurd z (by decide), ⟨fun z => absurd z (by decide), trivial⟩⟩⟩⟩⟩, fun _ => ⟨by decide, rfl⟩⟩
theorem T52 : DefT nms flg 52 "_law_are_refused" d52 D52 p52 := ⟨rfl, ⟨N52, ⟨rfl, rfl, rfl, by decide +kernel, rfl, by decide +kernel, by decide +kernel⟩, rfl, by decide +kernel, fun _ => by decide +kernel⟩, rfl, fun _ _ _ _ _ _ us hl => match us, hl with | [_], _ => rfl, ⟨fun z => absurd z (by decide), ⟨fun z => absurd z (by decide), ⟨fun z => absurd z (by decide), ⟨fun z => absurd z (by decide), ⟨fun z => absurd z (by decide), trivial⟩⟩⟩⟩⟩, fun _ => ⟨by decide, rfl⟩⟩
theorem T53 : DefT nms flg 53 "_law_right" d53 D53 p53 := ⟨rfl, ⟨N53, ⟨rfl, rfl, rfl, by decide +kernel, rfl, by decide +kernel, by decide +kernel⟩, rfl, by decide +kernel, fun z => by cases z⟩, rfl, fun _ _ _ _ _ _ us hl => match us, hl with | [_], _ => rfl, ⟨fun z => absurd z (by decide), ⟨fun z => absurd z (by decide), ⟨fun z => absurd z (by decide), ⟨fun z => absurd z (by decide), ⟨fun z => absurd z (by decide), trivial⟩⟩⟩⟩⟩, fun z => by cases z⟩
theorem T54 : DefT nms flg 54 "law" d54 D54 p54 := ⟨rfl, ⟨N54, ⟨rfl, rfl, rfl, by decide +kernel, rfl, by decide +kernel, by decide +kernel⟩, rfl, by decide +kernel, fun z => by cases z⟩, rfl, fun _ _ _ _ _ _ us hl => match us, hl with | [_], _ => rfl, ⟨fun z => absurd z (by decide), ⟨fun z => absurd z (by decide), ⟨fun z => absurd z (by decide), ⟨fun z => absurd z (by decide), ⟨fun z => absurd z (by decide), trivial⟩⟩⟩⟩⟩, fun z => by cases z⟩
theorem TT (f : Nat) (x : Str) (h : nms.fns[f]? = some x) : ∃ d D ps, prog.fns[f]? = some d ∧ fnD[f]? = some D ∧ DefT nms flg f x d D ps ∧ (f = 54 → ps = p54) := by
  match f, h with
  | 0, h => cases h; exact ⟨_, _, _, rfl, rfl, T0, fun z => by cases z⟩
  | 1, h => cases h; exact ⟨_, _, _, rfl, rfl, T1, fun z => by cases z⟩
  | 2, h => cases h; exact ⟨_, _, _, rfl, rfl, T2, fun z => by cases z⟩
  | 3, h => cases h; exact ⟨_, _, _, rfl, rfl, T3, fun z => by cases z⟩
  | 4, h => cases h; exact ⟨_, _, _, rfl, rfl, T4, fun z => by cases z⟩
  | 5, h => cases h; exact ⟨_, _, _, rfl, rfl, T5, fun z => by cases z⟩
  | 6, h => cases h; exact ⟨_, _, _, rfl, rfl, T6, fun z => by cases z⟩
  | 7, h => cases h; exact ⟨_, _, _, rfl, rfl, T7, fun z => by cases z⟩
  | 8, h => cases h; exact ⟨_, _, _, rfl, rfl, T8, fun z => by cases z⟩
  | 9, h => cases h; exact ⟨_, _, _, rfl, rfl, T9, fun z => by cases z⟩
  | 10, h => cases h; exact ⟨_, _, _, rfl, rfl, T10, fun z => by cases z⟩
  | 11, h => cases h; exact ⟨_, _, _, rfl, rfl, T11, fun z => by cases z⟩
  | 12, h => cases h; exact ⟨_, _, _, rfl, rfl, T12, fun z => by cases z⟩
  | 13, h => cases h; exact ⟨_, _, _, rfl, rfl, T13, fun z => by cases z⟩
  | 14, h => cases h; exact ⟨_, _, _, rfl, rfl, T14, fun z => by cases z⟩
  | 15, h => cases h; exact ⟨_, _, _, rfl, rfl, T15, fun z => by cases z⟩
  | 16, h => cases h; exact ⟨_, _, _, rfl, rfl, T16, fun z => by cases z⟩
  | 17, h => cases h; exact ⟨_, _, _, rfl, rfl, T17, fun z => by cases z⟩
  | 18, h => cases h; exact ⟨_, _, _, rfl, rfl, T18, fun z => by cases z⟩
  | 19, h => cases h; exact ⟨_, _, _, rfl, rfl, T19, fun z => by cases z⟩
  | 20, h => cases h; exact ⟨_, _, _, rfl, rfl, T20, fun z => by cases z⟩
  | 21, h => cases h; exact ⟨_, _, _, rfl, rfl, T21, fun z => by cases z⟩
  | 22, h => cases h; exact ⟨_, _, _, rfl, rfl, T22, fun z => by cases z⟩
  | 23, h => cases h; exact ⟨_, _, _, rfl, rfl, T23, fun z => by cases z⟩
  | 24, h => cases h; exact ⟨_, _, _, rfl, rfl, T24, fun z => by cases z⟩
  | 25, h => cases h; exact ⟨_, _, _, rfl, rfl, T25, fun z => by cases z⟩
  | 26, h => cases h; exact ⟨_, _, _, rfl, rfl, T26, fun z => by cases z⟩
  | 27, h => cases h; exact ⟨_, _, _, rfl, rfl, T27, fun z => by cases z⟩
  | 28, h => cases h; exact ⟨_, _, _, rfl, rfl, T28, fun z => by cases z⟩
  | 29, h => cases h; exact ⟨_, _, _, rfl, rfl, T29, fun z => by cases z⟩
  | 30, h => cases h; exact ⟨_, _, _, rfl, rfl, T30, fun z => by cases z⟩
  | 31, h => cases h; exact ⟨_, _, _, rfl, rfl, T31, fun z => by cases z⟩
  | 32, h => cases h; exact ⟨_, _, _, rfl, rfl, T32, fun z => by cases z⟩
  | 33, h => cases h; exact ⟨_, _, _, rfl, rfl, T33, fun z => by cases z⟩
  | 34, h => cases h; exact ⟨_, _, _, rfl, rfl, T34, fun z => by cases z⟩
  | 35, h => cases h; exact ⟨_, _, _, rfl, rfl, T35, fun z => by cases z⟩
  | 36, h => cases h; exact ⟨_, _, _, rfl, rfl, T36, fun z => by cases z⟩
  | 37, h => cases h; exact ⟨_, _, _, rfl, rfl, T37, fun z => by cases z⟩
  | 38, h => cases h; exact ⟨_, _, _, rfl, rfl, T38, fun z => by cases z⟩
  | 39, h => cases h; exact ⟨_, _, _, rfl, rfl, T39, fun z => by cases z⟩
  | 40, h => cases h; exact ⟨_, _, _, rfl, rfl, T40, fun z => by cases z⟩
  | 41, h => cases h; exact ⟨_, _, _, rfl, rfl, T41, fun z => by cases z⟩
  | 42, h => cases h; exact ⟨_, _, _, rfl, rfl, T42, fun z => by cases z⟩
  | 43, h => cases h; exact ⟨_, _, _, rfl, rfl, T43, fun z => by cases z⟩
  | 44, h => cases h; exact ⟨_, _, _, rfl, rfl, T44, fun z => by cases z⟩
  | 45, h => cases h; exact ⟨_, _, _, rfl, rfl, T45, fun z => by cases z⟩
  | 46, h => cases h; exact ⟨_, _, _, rfl, rfl, T46, fun z => by cases z⟩
  | 47, h => cases h; exact ⟨_, _, _, rfl, rfl, T47, fun z => by cases z⟩
  | 48, h => cases h; exact ⟨_, _, _, rfl, rfl, T48, fun z => by cases z⟩
  | 49, h => cases h; exact ⟨_, _, _, rfl, rfl, T49, fun z => by cases z⟩
  | 50, h => cases h; exact ⟨_, _, _, rfl, rfl, T50, fun z => by cases z⟩
  | 51, h => cases h; exact ⟨_, _, _, rfl, rfl, T51, fun z => by cases z⟩
  | 52, h => cases h; exact ⟨_, _, _, rfl, rfl, T52, fun z => by cases z⟩
  | 53, h => cases h; exact ⟨_, _, _, rfl, rfl, T53, fun z => by cases z⟩
  | 54, h => cases h; exact ⟨_, _, _, rfl, rfl, T54, fun _ => rfl⟩
  | n + 55, h => cases h
end K01
set_option linter.all false
set_option maxRecDepth 100000
set_option maxHeartbeats 0
namespace K01
open PySem PySem.Spec PyProof.Rows L2 EV
abbrev R : PySem.W.OpenRow := PySem.W.OpenLaw.row PySem.Challenge.rw_elbowsexactly_k01_whole_numbers_of_unlik
def file : Str := "/claim/cut.py"
abbrev hk : PySem.W.Hook := hookV 4 nms prog.glob flg file fnD
def ob (s : PySem.W.SharedT) : AlE := obsV nms prog.glob flg file fnD (HandSHeadRun.getT s) (frC (HandSHeadRun.getT s) 4)
theorem ob_eq (s : PySem.W.SharedT) : ob s = hk.obs s.abs := by
  have e : HandSHeadRun.getT s = s.abs.heap.get? := funext (HandSHeadRun.getT_eq s)
  show obsV nms prog.glob flg file fnD (HandSHeadRun.getT s) (frC (HandSHeadRun.getT s) 4) = obsV nms prog.glob flg file fnD s.abs.heap.get? (frC s.abs.heap.get? 4)
  rw [e]
def loose : List Str := nms.cls ++ nms.glb ++ fnNames.dropLast
theorem run (w : World) : HandSHeadRun.RunEq R (PySem.W.view R.prog [67]) hk ob 6000 loose w := by
  intro os
  kernel_rfl
end K01
set_option linter.all false
set_option maxRecDepth 100000
set_option maxHeartbeats 4000000
set_option exponentiation.threshold 20000
namespace SR
open Lean.Grind Std
class PR (R : Type) extends CommRing R, LE R, LT R, LawfulOrderLT R, IsLinearPreorder R, OrderedRing R where
  mn : ∀ x y : R, 0 ≤ x → 0 ≤ y → 0 ≤ x * y
section
variable {R : Type} [PR R]
theorem lt_or_le (x y : R) : x < y ∨ y ≤ x := by
  rcases IsLinearPreorder.le_total x y with h | h
  · by_cases k : y ≤ x
    · exact .inr k
    · exact .inl ((LawfulOrderLT.lt_iff x y).mpr ⟨h, k⟩)
  · exact .inr h
theorem nle {x y : R} (h : ¬ x ≤ y) : y < x := (lt_or_le y x).resolve_right h
theorem nlt {x y : R} (h : ¬ x < y) : y ≤ x := (lt_or_le x y).resolve_left h
theorem lt_nle {x y : R} (h : x < y) : ¬ y ≤ x := ((LawfulOrderLT.lt_iff x y).mp h).2
theorem le_nlt {x y : R} (h : x ≤ y) : ¬ y < x := fun k => lt_nle k h
theorem bl {x y : R} (h : y ≤ x → False) : x < y := nle h
theorem bg {x y : R} (h : y < x → False) : x ≤ y := nlt h
local macro_rules | `(tactic| walk_at "ln") => `(tactic| first | (refine bl fun _ => ?_; grind) | (refine bg fun _ => ?_; grind) | grind)
theorem mp {x y : R} (hx : 0 < x) (hy : 0 < y) : 0 < x * y := by
  have := OrderedRing.mul_lt_mul_of_pos_left hy hx
  rwa [Semiring.mul_zero] at this
theorem mn {x y : R} (hx : 0 ≤ x) (hy : 0 ≤ y) : 0 ≤ x * y := PR.mn x y hx hy
theorem sq0 (x : R) : 0 ≤ x * x := by
  rcases IsLinearPreorder.le_total 0 x with h | h
  · exact mn h h
  · have : 0 ≤ (-x) * (-x) := mn (by walk_at "ln") (by walk_at "ln")
    walk_at "ln"
theorem sqp {x : R} (h : 0 < x * x) (h0 : 0 ≤ x) : 0 < x := by
  refine bl fun k => ?_
  have : 0 ≤ (-x) * x := mn (by walk_at "ln") h0
  exact lt_nle h (by walk_at "ln")
/-- squares, nonneg ones -/
theorem lt_sq {x y : R} (h0 : 0 ≤ y) (h : x * x < y * y) : x < y ∧ -y < x := by
  constructor
  · refine bl fun k => ?_
    have a : 0 ≤ (x - y) * (x + y) := mn (by walk_at "ln") (by walk_at "ln")
    exact lt_nle h (by walk_at "ln")
  · refine bl fun k => ?_
    have a : 0 ≤ (-y - x) * (y - x) := mn (by walk_at "ln") (by walk_at "ln")
    exact lt_nle h (by walk_at "ln")
theorem le_sq {x y : R} (h0 : 0 ≤ y) (h : x * x ≤ y * y) : x ≤ y ∧ -y ≤ x := by
  constructor
  · refine bg fun k => ?_
    have a : 0 < (x - y) * (x + y) := mp (by walk_at "ln") (by walk_at "ln")
    exact le_nlt h (by walk_at "ln")
  · refine bg fun k => ?_
    have a : 0 < (-y - x) * (y - x) := mp (by walk_at "ln") (by walk_at "ln")
    exact le_nlt h (by walk_at "ln")
theorem sq_le {x y : R} (h1 : x ≤ y) (h2 : -y ≤ x) : x * x ≤ y * y := by
  have : 0 ≤ (y - x) * (y + x) := mn (by walk_at "ln") (by walk_at "ln")
  walk_at "ln"
theorem can {x y : R} (hy : 0 ≤ y) (h : 0 < x * y) : 0 < x := by
  refine bl fun k => ?_
  have : 0 ≤ (-x) * y := mn (by walk_at "ln") hy
  exact lt_nle h (by walk_at "ln")
theorem can0 {x y : R} (hy : 0 < y) (h : 0 ≤ x * y) : 0 ≤ x := by
  refine bg fun k => ?_
  have : 0 < (-x) * y := mp (by walk_at "ln") hy
  exact le_nlt h (by walk_at "ln")
/-! ### the order of x + y√o -/
section
variable (o : R)
def nn (a b : R) : Prop := (0 ≤ a ∧ 0 ≤ b) ∨ (0 ≤ a ∧ b * b * o ≤ a * a) ∨ (0 ≤ b ∧ a * a ≤ b * b * o)
def pp (a b : R) : Prop := (0 < a ∧ 0 < b) ∨ (0 < a ∧ b * b * o < a * a) ∨ (0 < b ∧ a * a < b * b * o)
variable {o} (ho : 0 ≤ o)
include ho
theorem nn_or (a b : R) : nn o a b ∨ pp o (-a) (-b) := by
  have e1 : (-a) * (-a) = a * a := by grind
  have e2 : (-b) * (-b) * o = b * b * o := by grind
  unfold nn pp
  rw [e1, e2]
  rcases lt_or_le a 0 with h1 | h1 <;> rcases lt_or_le b 0 with h2 | h2 <;> rcases lt_or_le (b * b * o) (a * a) with h3 | h3
  · exact .inr (.inl ⟨by walk_at "ln", by walk_at "ln"⟩)
  · exact .inr (.inl ⟨by walk_at "ln", by walk_at "ln"⟩)
  · exact .inr (.inr (.inl ⟨by walk_at "ln", h3⟩))
  · exact .inl (.inr (.inr ⟨h2, h3⟩))
  · exact .inl (.inr (.inl ⟨h1, by walk_at "ln"⟩))
  · rcases lt_or_le (a * a) (b * b * o) with h4 | h4
    · exact .inr (.inr (.inr ⟨by walk_at "ln", h4⟩))
    · exact .inl (.inr (.inl ⟨h1, h4⟩))
  · exact .inl (.inl ⟨h1, h2⟩)
  · exact .inl (.inl ⟨h1, h2⟩)
theorem pp_nnn {a b : R} (h : pp o a b) : ¬ nn o (-a) (-b) := by
  have e1 : (-a) * (-a) = a * a := by grind
  have e2 : (-b) * (-b) * o = b * b * o := by grind
  unfold nn pp at *
  rw [e1, e2]
  rcases h with ⟨h1, h2⟩ | ⟨h1, h2⟩ | ⟨h1, h2⟩ <;> rintro (⟨k1, k2⟩ | ⟨k1, k2⟩ | ⟨k1, k2⟩)
  · exact lt_nle h1 (by walk_at "ln")
  · exact lt_nle h1 (by walk_at "ln")
  · exact lt_nle h2 (by walk_at "ln")
  · exact lt_nle h1 (by walk_at "ln")
  · exact lt_nle h1 (by walk_at "ln")
  · exact lt_nle h2 k2
  · exact lt_nle h1 (by walk_at "ln")
  · exact lt_nle h2 k2
  · exact lt_nle h1 (by walk_at "ln")
theorem b1 {a b c d : R} (h1 : 0 ≤ a) (h2 : b * b * o ≤ a * a) (k1 : 0 ≤ c) (k2 : d * d * o ≤ c * c) : b * d * o ≤ a * c ∧ -(a * c) ≤ b * d * o := by
  have m1 : (b * d * o) * (b * d * o) ≤ (a * c) * (a * c) := by
    have a1 : 0 ≤ (a * a - b * b * o) * (c * c) := mn (by walk_at "ln") (sq0 c)
    have a2 : 0 ≤ (c * c - d * d * o) * (b * b * o) := mn (by walk_at "ln") (mn (sq0 b) ho)
    walk_at "ln"
  exact le_sq (mn h1 k1) m1
theorem b2 {a b c d : R} (h1 : 0 ≤ b) (h2 : a * a ≤ b * b * o) (k1 : 0 ≤ d) (k2 : c * c ≤ d * d * o) : a * c ≤ b * d * o ∧ -(b * d * o) ≤ a * c := by
  have m1 : (a * c) * (a * c) ≤ (b * d * o) * (b * d * o) := by
    have a1 : 0 ≤ (b * b * o - a * a) * (d * d * o) := mn (by walk_at "ln") (mn (sq0 d) ho)
    have a2 : 0 ≤ (d * d * o - c * c) * (a * a) := mn (by walk_at "ln") (sq0 a)
    walk_at "ln"
  exact le_sq (mn (mn h1 k1) ho) m1
theorem nn_two {a b : R} (h : nn o a b) : (0 ≤ a ∧ b * b * o ≤ a * a) ∨ (0 ≤ b ∧ a * a ≤ b * b * o) := by
  rcases h with ⟨h1, h2⟩ | h | h
  · rcases lt_or_le (a * a) (b * b * o) with z | z
    · exact .inr ⟨h2, by walk_at "ln"⟩
    · exact .inl ⟨h1, z⟩
  · exact .inl h
  · exact .inr h
theorem nn_mix {a b c d : R} (h1 : 0 ≤ a) (h2 : b * b * o ≤ a * a) (k1 : 0 ≤ d) (k2 : c * c ≤ d * d * o) : nn o (a + c) (b + d) := by
  rcases nn_or ho (a + c) (b + d) with z | z
  · exact z
  · exfalso
    rcases z with ⟨z1, z2⟩ | ⟨z1, z2⟩ | ⟨z1, z2⟩
    · have a1 : a * a ≤ (-c) * (-c) := sq_le (by walk_at "ln") (by walk_at "ln")
      have a3 : 0 < (-c - a) * (-c + a) := mp (by walk_at "ln") (by walk_at "ln")
      have a2 : d * d ≤ (-b) * (-b) := sq_le (by walk_at "ln") (by walk_at "ln")
      have a4 : 0 ≤ ((-b) * (-b) - d * d) * o := mn (by walk_at "ln") ho
      exact lt_nle a3 (by walk_at "ln")
    · have := (b1 ho h1 h2 (c := -(a + c)) (d := -(b + d)) (by walk_at "ln") (by walk_at "ln")).1
      exact le_nlt k2 (by walk_at "ln")
    · have := (b2 ho k1 k2 (d := -(b + d)) (c := -(a + c)) (by walk_at "ln") (by walk_at "ln")).1
      exact le_nlt h2 (by walk_at "ln")
theorem nn_add {a b c d : R} (h : nn o a b) (k : nn o c d) : nn o (a + c) (b + d) := by
  rcases nn_two ho h with ⟨h1, h2⟩ | ⟨h1, h2⟩ <;> rcases nn_two ho k with ⟨k1, k2⟩ | ⟨k1, k2⟩
  · have := (b1 ho h1 h2 k1 k2).1
    exact .inr (.inl ⟨by walk_at "ln", by walk_at "ln"⟩)
  · exact nn_mix ho h1 h2 k1 k2
  · have := nn_mix ho k1 k2 h1 h2
    rwa [show c + a = a + c by grind, show d + b = b + d by grind] at this
  · have := (b2 ho h1 h2 k1 k2).1
    exact .inr (.inr ⟨by walk_at "ln", by walk_at "ln"⟩)
theorem nn_mul12 {a b c d : R} (h1 : 0 ≤ a) (h2 : b * b * o ≤ a * a) (k1 : 0 ≤ d) (k2 : c * c ≤ d * d * o) : nn o (a * c + b * d * o) (a * d + b * c) := by
  refine .inr (.inr ⟨?_, ?_⟩)
  · rcases lt_or_le 0 o with p | p
    · have m1 : (b * c) * (b * c) ≤ (a * d) * (a * d) := by
        have a1 : 0 ≤ (a * a - b * b * o) * (c * c) := mn (by walk_at "ln") (sq0 c)
        have a2 : 0 ≤ (d * d * o - c * c) * (a * a) := mn (by walk_at "ln") (sq0 a)
        have := can0 p (x := (a * d) * (a * d) - (b * c) * (b * c)) (by walk_at "ln")
        walk_at "ln"
      have := (le_sq (mn h1 k1) m1).2
      walk_at "ln"
    · have c2 : c * c ≤ 0 := by
        have : 0 ≤ d * d * (-o) := mn (sq0 d) (by walk_at "ln")
        walk_at "ln"
      have l1 : c ≤ 0 := bg fun z => le_nlt c2 (mp z z)
      have l2 : 0 ≤ c := bg fun z => by
        have : 0 < (-c) * (-c) := mp (by walk_at "ln") (by walk_at "ln")
        exact le_nlt c2 (by walk_at "ln")
      have a1 : 0 ≤ b * c := by
        rcases lt_or_le b 0 with z | z
        · have : 0 ≤ (-b) * (-c) := mn (by walk_at "ln") (by walk_at "ln")
          walk_at "ln"
        · exact mn z l2
      have a2 := mn h1 k1
      walk_at "ln"
  · have a1 : 0 ≤ (a * a - b * b * o) * (d * d * o - c * c) := mn (by walk_at "ln") (by walk_at "ln")
    walk_at "ln"
theorem nn_mul {a b c d : R} (h : nn o a b) (k : nn o c d) : nn o (a * c + b * d * o) (a * d + b * c) := by
  rcases nn_two ho h with ⟨h1, h2⟩ | ⟨h1, h2⟩ <;> rcases nn_two ho k with ⟨k1, k2⟩ | ⟨k1, k2⟩
  · have := (b1 ho h1 h2 k1 k2).2
    have a1 : 0 ≤ (a * a - b * b * o) * (c * c - d * d * o) := mn (by walk_at "ln") (by walk_at "ln")
    exact .inr (.inl ⟨by walk_at "ln", by walk_at "ln"⟩)
  · exact nn_mul12 ho h1 h2 k1 k2
  · have := nn_mul12 ho k1 k2 h1 h2
    rwa [show c * a + d * b * o = a * c + b * d * o by grind, show c * b + d * a = a * d + b * c by grind] at this
  · have := (b2 ho h1 h2 k1 k2).2
    have a1 : 0 ≤ (b * b * o - a * a) * (d * d * o - c * c) := mn (by walk_at "ln") (by walk_at "ln")
    exact .inr (.inl ⟨by walk_at "ln", by walk_at "ln"⟩)
def pPos (o a b : R) : Prop := 0 < a ∧ b * b * o < a * a
def pNeg (o a b : R) : Prop := 0 < b ∧ a * a < b * b * o
def pZer (o a b : R) : Prop := 0 < a ∧ 0 < b ∧ a * a ≤ b * b * o ∧ b * b * o ≤ a * a
theorem pp_three {a b : R} : pp o a b ↔ pPos o a b ∨ pNeg o a b ∨ pZer o a b := by
  constructor
  · rintro (⟨h1, h2⟩ | h | h)
    · rcases lt_or_le (a * a) (b * b * o) with z | z
      · exact .inr (.inl ⟨h2, z⟩)
      · rcases lt_or_le (b * b * o) (a * a) with w | w
        · exact .inl ⟨h1, w⟩
        · exact .inr (.inr ⟨h1, h2, w, z⟩)
    · exact .inl h
    · exact .inr (.inl h)
  · rintro (h | h | ⟨h1, h2, _⟩)
    · exact .inr (.inl h)
    · exact .inr (.inr h)
    · exact .inl ⟨h1, h2⟩
theorem o_pos {a b : R} (h : pNeg o a b) : 0 < o := by
  refine bl fun z => ?_
  have a1 : 0 ≤ b * b * (-o) := mn (sq0 b) (by walk_at "ln")
  have := sq0 a
  exact lt_nle h.2 (by walk_at "ln")
theorem pPP {a b c d : R} (h : pPos o a b) (k : pPos o c d) : pp o (a * c + b * d * o) (a * d + b * c) := by
  obtain ⟨h1, h2⟩ := h
  obtain ⟨k1, k2⟩ := k
  have a1 : 0 < (a * a - b * b * o) * (c * c) := mp (by walk_at "ln") (mp k1 k1)
  have a2 : 0 ≤ (c * c - d * d * o) * (b * b * o) := mn (by walk_at "ln") (mn (sq0 b) ho)
  have p : 0 ≤ a * c := mn (by walk_at "ln") (by walk_at "ln")
  have := (lt_sq (x := b * d * o) p (by walk_at "ln")).2
  have a3 : 0 < (a * a - b * b * o) * (c * c - d * d * o) := mp (by walk_at "ln") (by walk_at "ln")
  exact .inr (.inl ⟨by walk_at "ln", by walk_at "ln"⟩)
theorem pMM {a b c d : R} (h : pNeg o a b) (k : pNeg o c d) : pp o (a * c + b * d * o) (a * d + b * c) := by
  have po := o_pos ho h
  obtain ⟨h1, h2⟩ := h
  obtain ⟨k1, k2⟩ := k
  have a1 : 0 < (b * b * o - a * a) * (d * d * o) := mp (by walk_at "ln") (mp (mp k1 k1) po)
  have a2 : 0 ≤ (d * d * o - c * c) * (a * a) := mn (by walk_at "ln") (sq0 a)
  have p : 0 < b * d * o := mp (mp h1 k1) po
  have := (lt_sq (x := a * c) (y := b * d * o) (by walk_at "ln") (by walk_at "ln")).2
  have a3 : 0 < (b * b * o - a * a) * (d * d * o - c * c) := mp (by walk_at "ln") (by walk_at "ln")
  exact .inr (.inl ⟨by walk_at "ln", by walk_at "ln"⟩)
theorem pPM {a b c d : R} (h : pPos o a b) (k : pNeg o c d) : pp o (a * c + b * d * o) (a * d + b * c) := by
  have po := o_pos ho k
  obtain ⟨h1, h2⟩ := h
  obtain ⟨k1, k2⟩ := k
  have a1 : 0 ≤ (a * a - b * b * o) * (c * c) := mn (by walk_at "ln") (sq0 c)
  have a2 : 0 < (d * d * o - c * c) * (a * a) := mp (by walk_at "ln") (mp h1 h1)
  have cc := can (x := (a * d) * (a * d) - (b * c) * (b * c)) ho (by walk_at "ln")
  have p : 0 < a * d := mp h1 k1
  have := (lt_sq (x := b * c) (y := a * d) (by walk_at "ln") (by walk_at "ln")).2
  have a3 : 0 < (a * a - b * b * o) * (d * d * o - c * c) := mp (by walk_at "ln") (by walk_at "ln")
  exact .inr (.inr ⟨by walk_at "ln", by walk_at "ln"⟩)
theorem pPZ {a b c d : R} (h : pPos o a b) (k : pZer o c d) : pp o (a * c + b * d * o) (a * d + b * c) := by
  obtain ⟨h1, h2⟩ := h
  obtain ⟨k1, k2, k3, k4⟩ := k
  have a1 : 0 < (a * a - b * b * o) * (c * c) := mp (by walk_at "ln") (mp k1 k1)
  have a2 : 0 ≤ (c * c - d * d * o) * (b * b * o) := mn (by walk_at "ln") (mn (sq0 b) ho)
  have a3 : 0 ≤ (d * d * o - c * c) * (a * a) := mn (by walk_at "ln") (sq0 a)
  have p : 0 < a * c := mp h1 k1
  have q : 0 < a * d := mp h1 k2
  have cc := can (x := (a * d) * (a * d) - (b * c) * (b * c)) ho (by walk_at "ln")
  have l1 := (lt_sq (x := b * d * o) (y := a * c) (by walk_at "ln") (by walk_at "ln")).2
  have l2 := (lt_sq (x := b * c) (y := a * d) (by walk_at "ln") (by walk_at "ln")).2
  exact .inl ⟨by walk_at "ln", by walk_at "ln"⟩
theorem pMZ {a b c d : R} (h : pNeg o a b) (k : pZer o c d) : pp o (a * c + b * d * o) (a * d + b * c) := by
  have po := o_pos ho h
  obtain ⟨h1, h2⟩ := h
  obtain ⟨k1, k2, k3, k4⟩ := k
  have a1 : 0 < (b * b * o - a * a) * (d * d * o) := mp (by walk_at "ln") (mp (mp k2 k2) po)
  have a2 : 0 ≤ (d * d * o - c * c) * (a * a) := mn (by walk_at "ln") (sq0 a)
  have a3 : 0 < (b * b * o - a * a) * (c * c) := mp (by walk_at "ln") (mp k1 k1)
  have a4 : 0 ≤ (c * c - d * d * o) * (a * a) := mn (by walk_at "ln") (sq0 a)
  have p : 0 < b * d * o := mp (mp h1 k2) po
  have q : 0 < b * c := mp h1 k1
  have cc := can (x := (b * c) * (b * c) - (a * d) * (a * d)) ho (by walk_at "ln")
  have l1 := (lt_sq (x := a * c) (y := b * d * o) (by walk_at "ln") (by walk_at "ln")).2
  have l2 := (lt_sq (x := a * d) (y := b * c) (by walk_at "ln") (by walk_at "ln")).2
  exact .inl ⟨by walk_at "ln", by walk_at "ln"⟩
theorem pZZ {a b c d : R} (h : pZer o a b) (k : pZer o c d) : pp o (a * c + b * d * o) (a * d + b * c) := by
  obtain ⟨h1, h2, h3, h4⟩ := h
  obtain ⟨k1, k2, k3, k4⟩ := k
  have a1 := mp h1 k1
  have a2 : 0 ≤ b * d * o := mn (mn (by walk_at "ln") (by walk_at "ln")) ho
  have a3 := mp h1 k2
  have a4 := mp h2 k1
  exact .inl ⟨by walk_at "ln", by walk_at "ln"⟩
theorem pp_mul {a b c d : R} (h : pp o a b) (k : pp o c d) : pp o (a * c + b * d * o) (a * d + b * c) := by
  have sw : ∀ {a b c d : R}, pp o (a * c + b * d * o) (a * d + b * c) → pp o (c * a + d * b * o) (c * b + d * a) := by
    intro a b c d h
    rwa [show c * a + d * b * o = a * c + b * d * o by grind, show c * b + d * a = a * d + b * c by grind]
  rcases (pp_three ho).mp h with h | h | h <;> rcases (pp_three ho).mp k with k | k | k
  · exact pPP ho h k
  · exact pPM ho h k
  · exact pPZ ho h k
  · exact sw (pPM ho k h)
  · exact pMM ho h k
  · exact pMZ ho h k
  · exact sw (pPZ ho k h)
  · exact sw (pMZ ho k h)
  · exact pZZ ho h k
end
end
local macro_rules | `(tactic| walk_at "ln") => `(tactic| first | (refine SR.bl fun _ => ?_; grind) | (refine SR.bg fun _ => ?_; grind) | grind)
local instance lnc {R : Type} [Semiring R] : NatCast R := Semiring.natCast
local instance lic {R : Type} [Ring R] : IntCast R := Ring.intCast
class NN {R : Type} [PR R] (o : R) : Prop where
  h : 0 ≤ o
@[ext] structure Ext (R : Type) [PR R] (o : R) where
  a : R
  b : R
section
variable {R : Type} [PR R] {o : R}
namespace Ext
instance : Add (Ext R o) := ⟨fun x y => ⟨x.a + y.a, x.b + y.b⟩⟩
instance : Mul (Ext R o) := ⟨fun x y => ⟨x.a * y.a + x.b * y.b * o, x.a * y.b + x.b * y.a⟩⟩
instance : Neg (Ext R o) := ⟨fun x => ⟨-x.a, -x.b⟩⟩
instance : Sub (Ext R o) := ⟨fun x y => ⟨x.a - y.a, x.b - y.b⟩⟩
instance : NatCast (Ext R o) := ⟨fun n => ⟨(n : R), 0⟩⟩
instance : IntCast (Ext R o) := ⟨fun n => ⟨(n : R), 0⟩⟩
instance (n : Nat) : OfNat (Ext R o) n := ⟨⟨OfNat.ofNat n, 0⟩⟩
instance : SMul Nat (Ext R o) := ⟨fun n x => (n : Ext R o) * x⟩
instance : SMul Int (Ext R o) := ⟨fun n x => (n : Ext R o) * x⟩
def npow (x : Ext R o) : Nat → Ext R o
  | 0 => 1
  | n + 1 => npow x n * x
instance : HPow (Ext R o) Nat (Ext R o) := ⟨npow⟩
theorem add_a (x y : Ext R o) : (x + y).a = x.a + y.a := rfl
theorem add_b (x y : Ext R o) : (x + y).b = x.b + y.b := rfl
theorem mul_a (x y : Ext R o) : (x * y).a = x.a * y.a + x.b * y.b * o := rfl
theorem mul_b (x y : Ext R o) : (x * y).b = x.a * y.b + x.b * y.a := rfl
theorem neg_a (x : Ext R o) : (-x).a = -x.a := rfl
theorem neg_b (x : Ext R o) : (-x).b = -x.b := rfl
theorem sub_a (x y : Ext R o) : (x - y).a = x.a - y.a := rfl
theorem sub_b (x y : Ext R o) : (x - y).b = x.b - y.b := rfl
theorem nat_a (n : Nat) : (OfNat.ofNat n : Ext R o).a = OfNat.ofNat n := rfl
theorem nat_b (n : Nat) : (OfNat.ofNat n : Ext R o).b = 0 := rfl
theorem zero_a : (0 : Ext R o).a = 0 := rfl
theorem zero_b : (0 : Ext R o).b = 0 := rfl
theorem one_a : (1 : Ext R o).a = 1 := rfl
theorem one_b : (1 : Ext R o).b = 0 := rfl
local macro_rules | `(tactic| walk_at "ex") => `(tactic| (apply Ext.ext <;> simp only [add_a, add_b, mul_a, mul_b, neg_a, neg_b, sub_a, sub_b, zero_a, zero_b, one_a, one_b] <;> grind))
instance : CommRing (Ext R o) where
  add_zero x := by walk_at "ex"
  add_comm x y := by walk_at "ex"
  add_assoc x y z := by walk_at "ex"
  mul_assoc x y z := by walk_at "ex"
  mul_one x := by walk_at "ex"
  one_mul x := by walk_at "ex"
  left_distrib x y z := by walk_at "ex"
  right_distrib x y z := by walk_at "ex"
  zero_mul x := by walk_at "ex"
  mul_zero x := by walk_at "ex"
  mul_comm x y := by walk_at "ex"
  pow_zero x := rfl
  pow_succ x n := rfl
  ofNat_succ n := by
    apply Ext.ext
    · show (OfNat.ofNat (n + 1) : R) = OfNat.ofNat n + 1
      exact Semiring.ofNat_succ n
    · show (0 : R) = 0 + 0
      grind
  ofNat_eq_natCast n := by
    apply Ext.ext
    · show (OfNat.ofNat n : R) = (n : R)
      exact Semiring.ofNat_eq_natCast n
    · rfl
  nsmul_eq_natCast_mul n x := rfl
  neg_add_cancel x := by walk_at "ex"
  sub_eq_add_neg x y := by walk_at "ex"
  neg_zsmul i x := by
    apply Ext.ext
    · show ((-i : Int) : R) * x.a + 0 * x.b * o = -((i : R) * x.a + 0 * x.b * o)
      rw [Ring.intCast_neg]; grind
    · show ((-i : Int) : R) * x.b + 0 * x.a = -((i : R) * x.b + 0 * x.a)
      rw [Ring.intCast_neg]; grind
  zsmul_natCast_eq_nsmul n x := by
    apply Ext.ext
    · show (((n : Int) : R)) * x.a + 0 * x.b * o = (n : R) * x.a + 0 * x.b * o
      rw [Ring.intCast_natCast]
    · show (((n : Int) : R)) * x.b + 0 * x.a = (n : R) * x.b + 0 * x.a
      rw [Ring.intCast_natCast]
  intCast_ofNat n := by
    apply Ext.ext
    · show (((OfNat.ofNat n : Int)) : R) = OfNat.ofNat n
      exact Ring.intCast_ofNat n
    · rfl
  intCast_neg i := by
    apply Ext.ext
    · show ((-i : Int) : R) = -(i : R)
      exact Ring.intCast_neg i
    · show (0 : R) = -0
      grind
instance : LE (Ext R o) := ⟨fun x y => nn o (y.a - x.a) (y.b - x.b)⟩
instance : LT (Ext R o) := ⟨fun x y => nn o (y.a - x.a) (y.b - x.b) ∧ ¬ nn o (x.a - y.a) (x.b - y.b)⟩
theorem le_iff (x y : Ext R o) : x ≤ y ↔ nn o (y.a - x.a) (y.b - x.b) := Iff.rfl
variable [ho : NN o]
theorem lt_iff (x y : Ext R o) : x < y ↔ pp o (y.a - x.a) (y.b - x.b) := by
  show (nn o (y.a - x.a) (y.b - x.b) ∧ ¬ nn o (x.a - y.a) (x.b - y.b)) ↔ _
  have e1 : -(x.a - y.a) = y.a - x.a := by grind
  have e2 : -(x.b - y.b) = y.b - x.b := by grind
  have e3 : -(y.a - x.a) = x.a - y.a := by grind
  have e4 : -(y.b - x.b) = x.b - y.b := by grind
  constructor
  · intro h
    have := (nn_or ho.h (x.a - y.a) (x.b - y.b)).resolve_left h.2
    rwa [e1, e2] at this
  · intro h
    have n := pp_nnn ho.h h
    rw [e3, e4] at n
    refine ⟨?_, n⟩
    rcases nn_or ho.h (y.a - x.a) (y.b - x.b) with z | z
    · exact z
    · exfalso
      rw [e3, e4] at z
      refine n ?_
      rcases z with ⟨h1, h2⟩ | ⟨h1, h2⟩ | ⟨h1, h2⟩
      · exact .inl ⟨by walk_at "ln", by walk_at "ln"⟩
      · exact .inr (.inl ⟨by walk_at "ln", by walk_at "ln"⟩)
      · exact .inr (.inr ⟨by walk_at "ln", by walk_at "ln"⟩)
instance : LawfulOrderLT (Ext R o) := ⟨fun x y => Iff.rfl⟩
instance : IsLinearPreorder (Ext R o) where
  le_refl x := .inl ⟨by walk_at "ln", by walk_at "ln"⟩
  le_trans x y z h k := by
    have := nn_add ho.h h k
    rwa [show y.a - x.a + (z.a - y.a) = z.a - x.a by grind, show y.b - x.b + (z.b - y.b) = z.b - x.b by grind] at this
  le_total x y := by
    by_cases h : x ≤ y
    · exact .inl h
    · refine .inr ?_
      have := (nn_or ho.h (y.a - x.a) (y.b - x.b)).resolve_left h
      rw [show -(y.a - x.a) = x.a - y.a by grind, show -(y.b - x.b) = x.b - y.b by grind] at this
      rcases this with ⟨h1, h2⟩ | ⟨h1, h2⟩ | ⟨h1, h2⟩
      · exact .inl ⟨by walk_at "ln", by walk_at "ln"⟩
      · exact .inr (.inl ⟨by walk_at "ln", by walk_at "ln"⟩)
      · exact .inr (.inr ⟨by walk_at "ln", by walk_at "ln"⟩)
theorem mul_lt {x y z : Ext R o} (h : x < y) (k : 0 < z) : z * x < z * y := by
  rw [lt_iff] at h k ⊢
  have := pp_mul ho.h k h
  rw [show (z * y).a - (z * x).a = (z.a - (0 : Ext R o).a) * (y.a - x.a) + (z.b - (0 : Ext R o).b) * (y.b - x.b) * o by simp only [mul_a, zero_a, zero_b]; grind,
    show (z * y).b - (z * x).b = (z.a - (0 : Ext R o).a) * (y.b - x.b) + (z.b - (0 : Ext R o).b) * (y.a - x.a) by simp only [mul_b, zero_a, zero_b]; grind]
  exact this
instance : OrderedRing (Ext R o) where
  add_le_left_iff {x y} z := by
    rw [le_iff, le_iff]
    rw [show (y + z).a - (x + z).a = y.a - x.a by simp only [add_a]; grind, show (y + z).b - (x + z).b = y.b - x.b by simp only [add_b]; grind]
  zero_lt_one := by
    rw [lt_iff]
    have z1 : (0 : R) < 1 := OrderedRing.zero_lt_one
    refine .inr (.inl ⟨?_, ?_⟩)
    · show 0 < (1 : R) - 0
      walk_at "ln"
    · show ((0 : R) - 0) * (0 - 0) * o < (1 - 0) * (1 - 0)
      walk_at "ln"
  mul_lt_mul_of_pos_left h k := mul_lt h k
  mul_lt_mul_of_pos_right {x y z} h k := by
    rw [show x * z = z * x by grind, show y * z = z * y by grind]
    exact mul_lt h k
instance : PR (Ext R o) where
  mn x y h k := by
    rw [le_iff] at h k ⊢
    have := nn_mul ho.h h k
    rw [show (x * y).a - (0 : Ext R o).a = (x.a - (0 : Ext R o).a) * (y.a - (0 : Ext R o).a) + (x.b - (0 : Ext R o).b) * (y.b - (0 : Ext R o).b) * o by simp only [mul_a, zero_a, zero_b]; grind,
      show (x * y).b - (0 : Ext R o).b = (x.a - (0 : Ext R o).a) * (y.b - (0 : Ext R o).b) + (x.b - (0 : Ext R o).b) * (y.a - (0 : Ext R o).a) by simp only [mul_b, zero_a, zero_b]; grind]
    exact this
end Ext
end
instance : PR Int where
  mn x y h k := Int.mul_nonneg h k
section
variable {R : Type} [PR R] {o : R}
open Classical in
noncomputable def sgn (x : R) : Int := if 0 < x then 1 else if x < 0 then -1 else 0
theorem sgn_pos {x : R} (h : 0 < x) : sgn x = 1 := if_pos h
theorem sgn_neg {x : R} (h : x < 0) : sgn x = -1 := by
  unfold sgn
  rw [if_neg (fun k => lt_nle k (by walk_at "ln")), if_pos h]
theorem sgn_zero {x : R} (h : 0 ≤ x) (k : x ≤ 0) : sgn x = 0 := by
  unfold sgn
  rw [if_neg (le_nlt k), if_neg (le_nlt h)]
theorem sgn_cases (x : R) : (0 < x ∧ sgn x = 1) ∨ ((0 ≤ x ∧ x ≤ 0) ∧ sgn x = 0) ∨ (x < 0 ∧ sgn x = -1) := by
  rcases lt_or_le 0 x with h | h
  · exact .inl ⟨h, sgn_pos h⟩
  · rcases lt_or_le x 0 with k | k
    · exact .inr (.inr ⟨k, sgn_neg k⟩)
    · exact .inr (.inl ⟨⟨k, h⟩, sgn_zero k h⟩)
theorem sgn_one_iff {x : R} : sgn x = 1 ↔ 0 < x := by
  rcases sgn_cases x with ⟨h, e⟩ | ⟨h, e⟩ | ⟨h, e⟩ <;> rw [e]
  · exact ⟨fun _ => h, fun _ => rfl⟩
  · exact ⟨fun z => by omega, fun z => absurd z (le_nlt h.2)⟩
  · exact ⟨fun z => by omega, fun z => absurd z (le_nlt (by walk_at "ln"))⟩
theorem sgn_lt_iff {x : R} : sgn x < 0 ↔ x < 0 := by
  rcases sgn_cases x with ⟨h, e⟩ | ⟨h, e⟩ | ⟨h, e⟩ <;> rw [e]
  · exact ⟨fun z => by omega, fun z => absurd z (le_nlt (by walk_at "ln"))⟩
  · exact ⟨fun z => by omega, fun z => absurd z (le_nlt h.1)⟩
  · exact ⟨fun _ => h, fun _ => by omega⟩
theorem sgn_ge_iff {x : R} : 0 ≤ sgn x ↔ 0 ≤ x := by
  rcases sgn_cases x with ⟨h, e⟩ | ⟨h, e⟩ | ⟨h, e⟩ <;> rw [e]
  · exact ⟨fun _ => by walk_at "ln", fun _ => by omega⟩
  · exact ⟨fun _ => h.1, fun _ => by omega⟩
  · exact ⟨fun z => by omega, fun z => absurd z (lt_nle h)⟩
theorem sgn_minus (x : R) : sgn (-x) = -sgn x := by
  rcases sgn_cases x with ⟨h, e⟩ | ⟨h, e⟩ | ⟨h, e⟩ <;> rw [e]
  · exact sgn_neg (by walk_at "ln")
  · exact sgn_zero (by have := h.2; walk_at "ln") (by have := h.1; walk_at "ln")
  · exact sgn_pos (by walk_at "ln")
theorem sgn_mul (x y : R) : sgn (x * y) = sgn x * sgn y := by
  rcases sgn_cases x with ⟨h, e⟩ | ⟨⟨h, h'⟩, e⟩ | ⟨h, e⟩ <;> rcases sgn_cases y with ⟨k, f⟩ | ⟨⟨k, k'⟩, f⟩ | ⟨k, f⟩ <;> rw [e, f]
  · exact sgn_pos (mp h k)
  · have a := mn (x := x) (y := y) (by walk_at "ln") k
    have b := mn (x := x) (y := -y) (by walk_at "ln") (by walk_at "ln")
    exact sgn_zero a (by walk_at "ln")
  · have b := mp (x := x) (y := -y) h (by walk_at "ln")
    exact sgn_neg (by walk_at "ln")
  · have a := mn (x := x) (y := y) h (by walk_at "ln")
    have b := mn (x := -x) (y := y) (by walk_at "ln") (by walk_at "ln")
    exact sgn_zero a (by walk_at "ln")
  · have a := mn (x := x) (y := y) h k
    have b := mn (x := -x) (y := y) (by walk_at "ln") (by walk_at "ln")
    exact sgn_zero a (by walk_at "ln")
  · have a := mn (x := x) (y := -y) h (by walk_at "ln")
    have b := mn (x := -x) (y := -y) (by walk_at "ln") (by walk_at "ln")
    exact sgn_zero (by walk_at "ln") (by walk_at "ln")
  · have b := mp (x := -x) (y := y) (by walk_at "ln") k
    exact sgn_neg (by walk_at "ln")
  · have a := mn (x := -x) (y := y) (by walk_at "ln") k
    have b := mn (x := -x) (y := -y) (by walk_at "ln") (by walk_at "ln")
    exact sgn_zero (by walk_at "ln") (by walk_at "ln")
  · have b := mp (x := -x) (y := -y) (by walk_at "ln") (by walk_at "ln")
    exact sgn_pos (by walk_at "ln")
/-- the sign of a + bω by squares -/
theorem root_sgn {w q : R} (w0 : 0 ≤ w) (hw : w * w = q) (a b : R) : (0 < q → sgn (a + b * w) = if sgn b = 0 ∨ sgn a = sgn b then sgn a else if sgn a = 0 then sgn b else sgn a * sgn (a * a - b * b * q)) ∧ (q ≤ 0 → sgn (a + b * w) = sgn a) := by
  constructor
  · intro q0
    have wp : 0 < w := sqp (by rw [hw]; exact q0) w0
    have N : sgn (a * a - b * b * q) = sgn (a + b * w) * sgn (a - b * w) := by rw [← sgn_mul, ← hw]; congr 1; grind
    rcases sgn_cases b with ⟨k, f⟩ | ⟨⟨k, k'⟩, f⟩ | ⟨k, f⟩
    · have bw := mp k wp
      rcases sgn_cases a with ⟨h, e⟩ | ⟨⟨h, h'⟩, e⟩ | ⟨h, e⟩ <;> rw [e, f]
      · exact sgn_pos (by walk_at "ln")
      · exact sgn_pos (by walk_at "ln")
      · rw [if_neg (by decide), if_neg (by decide), N, sgn_neg (x := a - b * w) (by walk_at "ln")]
        omega
    · rw [f, if_pos (.inl rfl)]
      have b1 := mn (x := b) (y := w) (by walk_at "ln") w0
      have b2 := mn (x := -b) (y := w) (by walk_at "ln") w0
      rcases sgn_cases a with ⟨h, e⟩ | ⟨⟨h, h'⟩, e⟩ | ⟨h, e⟩ <;> rw [e]
      · exact sgn_pos (by walk_at "ln")
      · exact sgn_zero (by walk_at "ln") (by walk_at "ln")
      · exact sgn_neg (by walk_at "ln")
    · have bw := mp (x := -b) (y := w) (by walk_at "ln") wp
      rcases sgn_cases a with ⟨h, e⟩ | ⟨⟨h, h'⟩, e⟩ | ⟨h, e⟩ <;> rw [e, f]
      · rw [if_neg (by decide), if_neg (by decide), N, sgn_pos (x := a - b * w) (by walk_at "ln")]
        omega
      · exact sgn_neg (by walk_at "ln")
      · exact sgn_neg (by walk_at "ln")
  · intro q0
    have wz : w ≤ 0 := bg fun z => by
      have := mp z z
      exact lt_nle this (by walk_at "ln")
    have b1 : b * w ≤ 0 ∧ 0 ≤ b * w := by
      rcases lt_or_le 0 b with z | z
      · have b1 := mn (x := b) (y := w) (by walk_at "ln") w0
        have b2 := mn (x := b) (y := -w) (by walk_at "ln") (by walk_at "ln")
        exact ⟨by walk_at "ln", by walk_at "ln"⟩
      · have b1 := mn (x := -b) (y := w) (by walk_at "ln") w0
        have b2 := mn (x := -b) (y := -w) (by walk_at "ln") (by walk_at "ln")
        exact ⟨by walk_at "ln", by walk_at "ln"⟩
    rcases sgn_cases a with ⟨h, e⟩ | ⟨⟨h, h'⟩, e⟩ | ⟨h, e⟩ <;> rw [e]
    · exact sgn_pos (by walk_at "ln")
    · exact sgn_zero (by walk_at "ln") (by walk_at "ln")
    · exact sgn_neg (by walk_at "ln")
/-- ints as elements -/
def c (i : Int) : R := Ring.intCast.intCast i
theorem c_add (i j : Int) : c (R := R) (i + j) = c i + c j := Ring.intCast_add i j
theorem c_mul (i j : Int) : c (R := R) (i * j) = c i * c j := Ring.intCast_mul i j
theorem c_neg (i : Int) : c (R := R) (-i) = -c i := Ring.intCast_neg i
theorem c_sub (i j : Int) : c (R := R) (i - j) = c i - c j := Ring.intCast_sub i j
theorem c_zero : c (R := R) 0 = 0 := Ring.intCast_zero
theorem c_one : c (R := R) 1 = 1 := Ring.intCast_one
theorem c_pos {i : Int} (h : 0 < i) : 0 < c (R := R) i := by
  obtain ⟨n, rfl⟩ : ∃ n : Nat, i = (n : Int) + 1 := ⟨(i - 1).toNat, by omega⟩
  clear h
  induction n with
  | zero =>
    rw [show ((0 : Nat) : Int) + 1 = 1 from rfl, c_one]
    exact OrderedRing.zero_lt_one
  | succ n ih =>
    have : (0 : R) < 1 := OrderedRing.zero_lt_one
    rw [show ((n + 1 : Nat) : Int) + 1 = ((n : Int) + 1) + 1 from rfl, c_add, c_one]
    walk_at "ln"
theorem c_lt {i j : Int} (h : i < j) : c (R := R) i < c j := by
  have : 0 < c (R := R) (j - i) := c_pos (by omega)
  rw [c_sub] at this
  walk_at "ln"
theorem c_le {i j : Int} (h : i ≤ j) : c (R := R) i ≤ c j := by
  rcases Int.lt_or_eq_of_le h with z | z
  · have := c_lt (R := R) z
    walk_at "ln"
  · rw [z]
    walk_at "ln"
theorem c_nn {i : Int} (h : 0 ≤ i) : 0 ≤ c (R := R) i := by
  have := c_le (R := R) h
  rwa [c_zero] at this
theorem c_lt' {i j : Int} (h : c (R := R) i < c j) : i < j := by
  refine Int.not_le.mp fun k => ?_
  exact lt_nle h (c_le k)
theorem c_le' {i j : Int} (h : c (R := R) i ≤ c j) : i ≤ j := by
  refine Int.not_lt.mp fun k => ?_
  exact lt_nle (c_lt k) h
theorem sgn_c (i : Int) : sgn (c (R := R) i) = if i = 0 then 0 else if 0 < i then 1 else -1 := by
  split
  · rename_i h
    rw [h, c_zero]
    exact sgn_zero (by walk_at "ln") (by walk_at "ln")
  · split
    · rename_i h
      exact sgn_pos (c_pos h)
    · have := c_lt (R := R) (i := i) (j := 0) (by omega)
      rw [c_zero] at this
      exact sgn_neg this
end
/-- two roots -/
structure RT (r o : Int) where
  R : Type
  pr : PR R
  u : R
  v : R
  hu : u * u = c r
  hv : v * v = c o
  u0 : 0 ≤ u
  v0 : 0 ≤ v
theorem rootOf {R : Type} [PR R] (o : R) (h : 0 ≤ o) : ∃ (S : Type) (_ : PR S) (i : R → S) (w : S), (∀ n : Int, i (c n) = c n) ∧ (∀ x y, i (x * y) = i x * i y) ∧ (∀ x, 0 ≤ x → 0 ≤ i x) ∧ w * w = i o ∧ 0 ≤ w := by
  haveI : NN o := ⟨h⟩
  refine ⟨Ext R o, inferInstance, fun x => ⟨x, 0⟩, ⟨0, 1⟩, fun n => rfl, fun x y => ?_, fun x hx => ?_, ?_, ?_⟩
  · apply Ext.ext
    · show x * y = x * y + 0 * 0 * o
      grind
    · show (0 : R) = x * 0 + 0 * y
      grind
  · rw [Ext.le_iff]
    exact .inl ⟨show (0 : R) ≤ x - 0 by walk_at "ln", show (0 : R) ≤ 0 - 0 by walk_at "ln"⟩
  · apply Ext.ext
    · show (0 : R) * 0 + 1 * 1 * o = o
      grind
    · show (0 : R) * 1 + 1 * 0 = 0
      grind
  · rw [Ext.le_iff]
    have : (0 : R) < 1 := OrderedRing.zero_lt_one
    exact .inl ⟨show (0 : R) ≤ 0 - 0 by walk_at "ln", show (0 : R) ≤ 1 - 0 by walk_at "ln"⟩
theorem rt {r o : Int} (hr : 0 ≤ r) (ho : 0 ≤ o) : Nonempty (RT r o) := by
  obtain ⟨S, ps, i, w, i1, i2, i3, w1, w2⟩ := rootOf (R := Int) (c r) (c_nn hr)
  obtain ⟨T, pt, j, z, j1, j2, j3, z1, z2⟩ := rootOf (R := S) (c o) (c_nn ho)
  refine ⟨⟨T, pt, j w, z, ?_, ?_, j3 _ w2, z2⟩⟩
  · rw [← j2, w1, i1, j1]
  · rw [z1, j1]
end SR
set_option linter.all false
set_option maxRecDepth 100000
set_option maxHeartbeats 4000000
set_option exponentiation.threshold 20000
namespace K01
open PySem PySem.Spec PyProof.Rows L2 EV
/-- the program, its loops given W turns -/
abbrev PW (W : Nat) : Pg := prog.at W
abbrev cf (W n : Nat) : Cfg := cfgOf (PW W) (evN (PW W) n true) (fun k cs vs h => evN (PW W) n false k (cs ++ vs) h) false []
mutual
theorem pure_refs : ∀ x : PV, x.pure = true → x.refs = []
  | .non, _ => rfl
  | .bl _, _ => rfl
  | .int _, _ => rfl
  | .str _, _ => rfl
  | .tup xs, h => pures_refs xs h
  | .ref _, h => by cases h
  | .exc _ _ v, h => pure_refs v h
  | .clo _ _, h => by cases h
theorem pures_refs : ∀ xs : List PV, PV.pures xs = true → PV.refss xs = []
  | [], _ => rfl
  | x :: xs, h => by
    have h : (x.pure && PV.pures xs) = true := h
    rw [Bool.and_eq_true] at h
    show x.refs ++ PV.refss xs = []
    rw [pure_refs x h.1, pures_refs xs h.2]; rfl
end
mutual
theorem pure_ren (m : List Nat) : ∀ x : PV, x.pure = true → PV.ren m x = some x
  | .non, _ => rfl
  | .bl _, _ => rfl
  | .int _, _ => rfl
  | .str _, _ => rfl
  | .tup xs, h => by
    show (match PV.rens m xs with
      | some ys => some (PV.tup ys)
      | none => none) = _
    rw [pures_rens m xs h]
  | .ref _, h => by cases h
  | .exc b c v, h => by
    show (match PV.ren m v with
      | some w => some (PV.exc b c w)
      | none => none) = _
    rw [pure_ren m v h]
  | .clo _ _, h => by cases h
theorem pures_rens (m : List Nat) : ∀ xs : List PV, PV.pures xs = true → PV.rens m xs = some xs
  | [], _ => rfl
  | x :: xs, h => by
    have h : (x.pure && PV.pures xs) = true := h
    rw [Bool.and_eq_true] at h
    show (match PV.ren m x, PV.rens m xs with
      | some y, some ys => some (y :: ys)
      | _, _ => none) = _
    rw [pure_ren m x h.1, pures_rens m xs h.2]
end
theorem grab_pure {h : Hh} {args : List PV} (ha : PV.pures args = true) : grab h args = some ([], args, []) := by
  unfold grab
  rw [pures_refs args ha]
  show (if nodupB [] = true then match PV.rens [] args, renH [] h [] with
      | some as, some h0 => some (([] : List Nat), as, h0)
      | _, _ => none
    else none) = _
  rw [pures_rens [] args ha]
  rfl
/-- a def called with values that name no place, telling one -/
theorem callP {W n f : Nat} {d : Fd} {args : List PV} {v : PV} {h h1 : Hh} (hd : prog.fns[f]? = some d) (hl : args.length = d.np) (hfl : d.flag = false) (hcd : d.capd = []) (ha : PV.pures args = true) (hv : v.pure = true)
    (e : (ev (cf W n) d.body).s (args.map some ++ List.replicate (d.ns - d.np) none) [] = .ok (Fl.rt v) h1) : evN (PW W) (n + 1) true f args h = .ok v h := by
  show (match (PW W).fns[f]? with
    | some d => if args.length = d.np then runF (PW W) (evN (PW W) n true) (fun k cs vs h => evN (PW W) n false k (cs ++ vs) h) d args h else .err
    | none => .err) = _
  rw [show (PW W).fns[f]? = some d from hd]
  dsimp only
  rw [if_pos hl]
  unfold runF lcl
  rw [grab_pure ha, hfl, hcd]
  dsimp only
  rw [e]
  show (if (([] : List Nat).isEmpty && v.pure) = true then Rz.ok v h else _) = _
  rw [hv]
  rfl
/-- .. that falls off its end -/
theorem callN {W n f : Nat} {d : Fd} {args : List PV} {ρ : En} {h h1 : Hh} (hd : prog.fns[f]? = some d) (hl : args.length = d.np) (hfl : d.flag = false) (hcd : d.capd = []) (ha : PV.pures args = true)
    (e : (ev (cf W n) d.body).s (args.map some ++ List.replicate (d.ns - d.np) none) [] = .ok (Fl.nx ρ) h1) : evN (PW W) (n + 1) true f args h = .ok .non h := by
  show (match (PW W).fns[f]? with
    | some d => if args.length = d.np then runF (PW W) (evN (PW W) n true) (fun k cs vs h => evN (PW W) n false k (cs ++ vs) h) d args h else .err
    | none => .err) = _
  rw [show (PW W).fns[f]? = some d from hd]
  dsimp only
  rw [if_pos hl]
  unfold runF lcl
  rw [grab_pure ha, hfl, hcd]
  dsimp only
  rw [e]
  rfl
/-- .. that raises -/
theorem callX {W n f c : Nat} {d : Fd} {args : List PV} {v : PV} {h h1 : Hh} (hd : prog.fns[f]? = some d) (hl : args.length = d.np) (hfl : d.flag = false) (hcd : d.capd = []) (ha : PV.pures args = true)
    (e : (ev (cf W n) d.body).s (args.map some ++ List.replicate (d.ns - d.np) none) [] = .ex c v h1) : ∃ h2, evN (PW W) (n + 1) true f args h = .ex c (v.bak [] h.length) (h ++ h2) := by
  refine ⟨h1.map (HV.bak [] h.length), ?_⟩
  show (match (PW W).fns[f]? with
    | some d => if args.length = d.np then runF (PW W) (evN (PW W) n true) (fun k cs vs h => evN (PW W) n false k (cs ++ vs) h) d args h else .err
    | none => .err) = _
  rw [show (PW W).fns[f]? = some d from hd]
  dsimp only
  rw [if_pos hl]
  unfold runF lcl
  rw [grab_pure ha, hfl, hcd]
  dsimp only
  rw [e]
  rfl
theorem bnd_ok {α β : Type} {a : α} {h : Hh} {f : α → Hh → Rz β} : (Rz.ok a h).bnd f = f a h := rfl

/-! ### sizes -/
theorem mulOk {x y : Int} {a b : Nat} (hx : x.natAbs < 2 ^ a) (hy : y.natAbs < 2 ^ b) (h : a + b < 1000000 := by omega) : EV.MulOk x y := by
  unfold EV.MulOk
  have h1 : x.natAbs.log2 ≤ a := by
    by_cases h0 : x.natAbs = 0
    · rw [h0]; exact Nat.zero_le _
    · exact Nat.le_of_lt ((Nat.log2_lt h0).mpr hx)
  have h2 : y.natAbs.log2 ≤ b := by
    by_cases h0 : y.natAbs = 0
    · rw [h0]; exact Nat.zero_le _
    · exact Nat.le_of_lt ((Nat.log2_lt h0).mpr hy)
  omega
theorem b_mul {x y : Int} {a b : Nat} (hx : x.natAbs < 2 ^ a) (hy : y.natAbs < 2 ^ b) : (x * y).natAbs < 2 ^ (a + b) := by
  rw [Int.natAbs_mul, Nat.pow_add]
  exact Nat.mul_lt_mul_of_lt_of_le hx (Nat.le_of_lt hy) (Nat.lt_of_le_of_lt (Nat.zero_le _) hy)
theorem b_mono {x : Int} {a b : Nat} (hx : x.natAbs < 2 ^ a) (h : a ≤ b) : x.natAbs < 2 ^ b := Nat.lt_of_lt_of_le hx (Nat.pow_le_pow_right (by decide) h)
theorem b_add {x y : Int} {a b : Nat} (hx : x.natAbs < 2 ^ a) (hy : y.natAbs < 2 ^ b) : (x + y).natAbs < 2 ^ (max a b + 1) := by
  have h1 := b_mono hx (Nat.le_max_left a b)
  have h2 := b_mono hy (Nat.le_max_right a b)
  rw [Nat.pow_succ]
  omega
theorem b_sub {x y : Int} {a b : Nat} (hx : x.natAbs < 2 ^ a) (hy : y.natAbs < 2 ^ b) : (x - y).natAbs < 2 ^ (max a b + 1) := by
  have h1 := b_mono hx (Nat.le_max_left a b)
  have h2 := b_mono hy (Nat.le_max_right a b)
  rw [Nat.pow_succ]
  omega
theorem b_neg {x : Int} {a : Nat} (hx : x.natAbs < 2 ^ a) : (-x).natAbs < 2 ^ a := by rw [Int.natAbs_neg]; exact hx

/-! ### the evaluator, step by step -/
section
variable {W n : Nat} {ρ ρ1 ρ2 : En} {h h2 h4 h6 : Hh} {v x y z : PV} {vs : List PV} {a b c t e tg args : T} {R : Rz Fl}
theorem v_var {i : Nat} (hs : slot ρ i = some v) : (ev (cf W n) (.var i)).e ρ h = .ok v h := by
  show (match slot ρ i with
    | some v => Rz.ok v h
    | none => .err) = _
  rw [hs]
theorem v_cst {k : PV} : (ev (cf W n) (.cst k)).e ρ h = .ok k h := rfl
theorem v_glb {g : Nat} (hs : prog.glob[g]? = some v) : (ev (cf W n) (.glb g)).e ρ h = .ok v h := by
  show (match prog.glob[g]? with
    | some v => Rz.ok v h
    | none => .err) = _
  rw [hs]
theorem a_nil : (ev (cf W n) .nil).a ρ h = .ok [] h := rfl
theorem a_cons (h1 : (ev (cf W n) a).e ρ h = .ok x h2) (h3 : (ev (cf W n) b).a ρ h2 = .ok vs h4) : (ev (cf W n) (.cons a b)).a ρ h = .ok (x :: vs) h4 := by
  show ((ev (cf W n) a).e ρ h).bnd (fun x h => ((ev (cf W n) b).a ρ h).bnd fun xs h => .ok (x :: xs) h) = _
  rw [h1, bnd_ok, h3, bnd_ok]
theorem v_tup (h1 : (ev (cf W n) a).a ρ h = .ok vs h2) (hl : vs.length ≤ sizeLine) : (ev (cf W n) (.tup a)).e ρ h = .ok (PV.tup vs) h2 := by
  show ((ev (cf W n) a).a ρ h).bnd (fun vs h => if vs.length ≤ sizeLine then .ok (PV.tup vs) h else .err) = _
  rw [h1, bnd_ok, if_pos hl]
theorem v_bin {op : Operator} (h1 : (ev (cf W n) a).e ρ h = .ok x h2) (h3 : (ev (cf W n) b).e ρ h2 = .ok y h4) (h5 : binV op x y h4 = .ok z h6) : (ev (cf W n) (.bin op a b)).e ρ h = .ok z h6 := by
  show ((ev (cf W n) a).e ρ h).bnd (fun x h => ((ev (cf W n) b).e ρ h).bnd fun y h => binV op x y h) = _
  rw [h1, bnd_ok, h3, bnd_ok, h5]
theorem bi_add {i j : Int} : binV .Add (.int i) (.int j) h = .ok (PV.int (i + j)) h := rfl
theorem bi_sub {i j : Int} : binV .Sub (.int i) (.int j) h = .ok (PV.int (i - j)) h := rfl
theorem bi_subB {i j : Bool} : binV .Sub (.bl i) (.bl j) h = .ok (PV.int (b2 i - b2 j)) h := rfl
theorem bi_mul {i j : Int} (m : EV.MulOk i j) : binV .Mult (.int i) (.int j) h = .ok (PV.int (i * j)) h := if_pos m
theorem bi_div {i j : Int} (m : DivOk j) : binV .FloorDiv (.int i) (.int j) h = .ok (PV.int (i.fdiv j)) h := if_pos m
theorem bi_mod {i j : Int} (m : j ≠ 0) : binV .Mod (.int i) (.int j) h = .ok (PV.int (i.fmod j)) h := if_pos m
theorem bi_pow {i j : Int} (m : PowOk i j) : binV .Pow (.int i) (.int j) h = .ok (PV.int (i ^ j.toNat)) h := if_pos m
theorem v_neg {i : Int} (h1 : (ev (cf W n) a).e ρ h = .ok (PV.int i) h2) : (ev (cf W n) (.neg a)).e ρ h = .ok (PV.int (-i)) h2 := by
  show ((ev (cf W n) a).e ρ h).bnd (fun x h => match x with
    | .int i => .ok (PV.int (-i)) h
    | _ => .err) = _
  rw [h1, bnd_ok]
theorem v_cmp {op : CmpOp} (h1 : (ev (cf W n) a).e ρ h = .ok x h2) (h3 : (ev (cf W n) b).e ρ h2 = .ok y h4) (h5 : cmpV op x y h4 = .ok z h6) : (ev (cf W n) (.cmp op a b)).e ρ h = .ok z h6 := by
  show ((ev (cf W n) a).e ρ h).bnd (fun x h => ((ev (cf W n) b).e ρ h).bnd fun y h => cmpV op x y h) = _
  rw [h1, bnd_ok, h3, bnd_ok, h5]
theorem c_lt {i j : Int} : cmpV .Lt (.int i) (.int j) h = .ok (PV.bl (decide (i < j))) h := rfl
theorem c_le {i j : Int} : cmpV .LtE (.int i) (.int j) h = .ok (PV.bl (decide (i ≤ j))) h := rfl
theorem c_gt {i j : Int} : cmpV .Gt (.int i) (.int j) h = .ok (PV.bl (decide (j < i))) h := rfl
theorem c_ge {i j : Int} : cmpV .GtE (.int i) (.int j) h = .ok (PV.bl (decide (j ≤ i))) h := rfl
theorem c_eq {i j : Int} : cmpV .Eq (.int i) (.int j) h = .ok (PV.bl (decide (i = j))) h := rfl
theorem c_ne {i j : Int} : cmpV .NotEq (.int i) (.int j) h = .ok (PV.bl (!decide (i = j))) h := rfl
theorem c_eqB {i j : Bool} : cmpV .Eq (.bl i) (.bl j) h = .ok (PV.bl (decide (i = j))) h := rfl
theorem c_eqS {i j : Str} : cmpV .Eq (.str i) (.str j) h = .ok (PV.bl (decide (i = j))) h := rfl
theorem c_neS {i j : Str} : cmpV .NotEq (.str i) (.str j) h = .ok (PV.bl (!decide (i = j))) h := rfl
/-- a truth that is known -/
theorem k_t {α : Type} {p : Prop} [Decidable p] {r : Rz α} {f : Bool → Rz α} (hr : r = f (decide p)) (hp : p) : r = f true := by rw [hr, decide_eq_true hp]
theorem t_e {k : Bool} (hh : (ev (cf W n) t).t ρ h = ((ev (cf W n) t).e ρ h).bnd truV) (h1 : (ev (cf W n) t).e ρ h = .ok (PV.bl k) h2) : (ev (cf W n) t).t ρ h = .ok k h2 := by rw [hh, h1]; rfl
theorem t_var {i : Nat} {k : Bool} (h1 : (ev (cf W n) (.var i)).e ρ h = .ok (PV.bl k) h2) : (ev (cf W n) (.var i)).t ρ h = .ok k h2 := t_e rfl h1
theorem t_cmp {op : CmpOp} {k : Bool} (h1 : (ev (cf W n) (.cmp op a b)).e ρ h = .ok (PV.bl k) h2) : (ev (cf W n) (.cmp op a b)).t ρ h = .ok k h2 := t_e rfl h1
theorem t_chn {op op' : CmpOp} {k : Bool} (h1 : (ev (cf W n) (.chn op op' a b c)).e ρ h = .ok (PV.bl k) h2) : (ev (cf W n) (.chn op op' a b c)).t ρ h = .ok k h2 := t_e rfl h1
theorem t_call {f : Nat} {k : Bool} (h1 : (ev (cf W n) (.call f a)).e ρ h = .ok (PV.bl k) h2) : (ev (cf W n) (.call f a)).t ρ h = .ok k h2 := t_e rfl h1
theorem t_cst {q : PV} {k : Bool} (h1 : (ev (cf W n) (.cst q)).e ρ h = .ok (PV.bl k) h2) : (ev (cf W n) (.cst q)).t ρ h = .ok k h2 := t_e rfl h1
theorem t_blt {q : BI} {k : Bool} (h1 : (ev (cf W n) (.blt q a)).e ρ h = .ok (PV.bl k) h2) : (ev (cf W n) (.blt q a)).t ρ h = .ok k h2 := t_e rfl h1
theorem t_isi {q : Ty} {k : Bool} (h1 : (ev (cf W n) (.isi q a)).e ρ h = .ok (PV.bl k) h2) : (ev (cf W n) (.isi q a)).t ρ h = .ok k h2 := t_e rfl h1
theorem t_isx {q : Nat} {k : Bool} (h1 : (ev (cf W n) (.isx q a)).e ρ h = .ok (PV.bl k) h2) : (ev (cf W n) (.isx q a)).t ρ h = .ok k h2 := t_e rfl h1
theorem t_nt {k : Bool} (h1 : (ev (cf W n) a).t ρ h = .ok k h2) : (ev (cf W n) (.nt a)).t ρ h = .ok (!k) h2 := by
  show ((ev (cf W n) a).t ρ h).bnd (fun b h => .ok (!b) h) = _
  rw [h1]; rfl
theorem v_nt {k : Bool} (h1 : (ev (cf W n) a).e ρ h = .ok (PV.bl k) h2) : (ev (cf W n) (.nt a)).e ρ h = .ok (PV.bl (!k)) h2 := by
  show ((ev (cf W n) a).e ρ h).bnd (fun x h => match x with
      | .bl b => .ok (PV.bl (!b)) h
      | _ => .err) = _
  rw [h1]; rfl
theorem t_an {k l : Bool} (h1 : (ev (cf W n) a).t ρ h = .ok k h2) (h3 : k = true → (ev (cf W n) b).t ρ h2 = .ok l h2) : (ev (cf W n) (.an a b)).t ρ h = .ok (k && l) h2 := by
  show ((ev (cf W n) a).t ρ h).bnd (fun x h => if x = true then (ev (cf W n) b).t ρ h else .ok false h) = _
  rw [h1, bnd_ok]
  cases k with
  | true => rw [if_pos rfl, h3 rfl]; rfl
  | false => rfl
theorem t_oo {k l : Bool} (h1 : (ev (cf W n) a).t ρ h = .ok k h2) (h3 : k = false → (ev (cf W n) b).t ρ h2 = .ok l h2) : (ev (cf W n) (.oo a b)).t ρ h = .ok (k || l) h2 := by
  show ((ev (cf W n) a).t ρ h).bnd (fun x h => if x = true then .ok true h else (ev (cf W n) b).t ρ h) = _
  rw [h1, bnd_ok]
  cases k with
  | true => rfl
  | false => rw [if_neg (by decide), h3 rfl]; rfl
theorem v_an {k l : Bool} (h1 : (ev (cf W n) a).e ρ h = .ok (PV.bl k) h2) (h3 : k = true → (ev (cf W n) b).e ρ h2 = .ok (PV.bl l) h2) : (ev (cf W n) (.an a b)).e ρ h = .ok (PV.bl (k && l)) h2 := by
  show ((ev (cf W n) a).e ρ h).bnd (fun x h => match x with
      | .bl true => (ev (cf W n) b).e ρ h
      | .bl false => .ok (PV.bl false) h
      | _ => .err) = _
  rw [h1, bnd_ok]
  cases k with
  | true => exact h3 rfl
  | false => rfl
theorem v_oo {k l : Bool} (h1 : (ev (cf W n) a).e ρ h = .ok (PV.bl k) h2) (h3 : k = false → (ev (cf W n) b).e ρ h2 = .ok (PV.bl l) h2) : (ev (cf W n) (.oo a b)).e ρ h = .ok (PV.bl (k || l)) h2 := by
  show ((ev (cf W n) a).e ρ h).bnd (fun x h => match x with
      | .bl false => (ev (cf W n) b).e ρ h
      | .bl true => .ok (PV.bl true) h
      | _ => .err) = _
  rw [h1, bnd_ok]
  cases k with
  | true => rfl
  | false => exact h3 rfl
theorem v_ifeT (h1 : (ev (cf W n) c).t ρ h = .ok true h2) (h3 : (ev (cf W n) a).e ρ h2 = .ok x h4) : (ev (cf W n) (.ife c a b)).e ρ h = .ok x h4 := by
  show ((ev (cf W n) c).t ρ h).bnd (fun k h => if k = true then (ev (cf W n) a).e ρ h else (ev (cf W n) b).e ρ h) = _
  rw [h1, bnd_ok, if_pos rfl, h3]
theorem v_ifeF (h1 : (ev (cf W n) c).t ρ h = .ok false h2) (h3 : (ev (cf W n) b).e ρ h2 = .ok x h4) : (ev (cf W n) (.ife c a b)).e ρ h = .ok x h4 := by
  show ((ev (cf W n) c).t ρ h).bnd (fun k h => if k = true then (ev (cf W n) a).e ρ h else (ev (cf W n) b).e ρ h) = _
  rw [h1, bnd_ok, if_neg (by decide), h3]
theorem v_ife {k : Bool} {f g : PV} (h1 : (ev (cf W n) c).t ρ h = .ok k h2) (h3 : k = true → (ev (cf W n) a).e ρ h2 = .ok f h2) (h4 : k = false → (ev (cf W n) b).e ρ h2 = .ok g h2) : (ev (cf W n) (.ife c a b)).e ρ h = .ok (if k = true then f else g) h2 := by
  cases k with
  | true => exact v_ifeT h1 (h3 rfl)
  | false => exact v_ifeF h1 (h4 rfl)
theorem v_idx (h1 : (ev (cf W n) a).e ρ h = .ok x h2) (h3 : (ev (cf W n) b).e ρ h2 = .ok y h4) (h5 : idxV x y h4 = .ok z h4) : (ev (cf W n) (.idx a b)).e ρ h = .ok z h4 := by
  show ((ev (cf W n) a).e ρ h).bnd (fun x h => ((ev (cf W n) b).e ρ h).bnd fun y h => idxV x y h) = _
  rw [h1, bnd_ok, h3, bnd_ok, h5]
theorem v_call {f : Nat} (h1 : (ev (cf W n) args).a ρ h = .ok vs h2) (h3 : evN (PW W) n true f vs h2 = .ok v h4) : (ev (cf W n) (.call f args)).e ρ h = .ok v h4 := by
  show ((ev (cf W n) args).a ρ h).bnd (fun vs h => (evN (PW W) n true f vs h).nxf false) = _
  rw [h1, bnd_ok, h3]; rfl
theorem v_abs {i : Int} (h1 : (ev (cf W n) a).e ρ h = .ok (PV.int i) h2) : (ev (cf W n) (.blt .abs (.cons a .nil))).e ρ h = .ok (PV.int (if i < 0 then -i else i)) h2 := by
  show (((ev (cf W n) a).e ρ h).bnd fun x h => (Rz.ok ([] : List PV) h).bnd fun xs h => .ok (x :: xs) h).bnd (fun vs h => bltV .abs vs h) = _
  rw [h1]; rfl
theorem v_intI {i : Int} (h1 : (ev (cf W n) a).e ρ h = .ok (PV.int i) h2) : (ev (cf W n) (.blt .int (.cons a .nil))).e ρ h = .ok (PV.int i) h2 := by
  show (((ev (cf W n) a).e ρ h).bnd fun x h => (Rz.ok ([] : List PV) h).bnd fun xs h => .ok (x :: xs) h).bnd (fun vs h => bltV .int vs h) = _
  rw [h1]; rfl
theorem v_intB {i : Bool} (h1 : (ev (cf W n) a).e ρ h = .ok (PV.bl i) h2) : (ev (cf W n) (.blt .int (.cons a .nil))).e ρ h = .ok (PV.int (b2 i)) h2 := by
  show (((ev (cf W n) a).e ρ h).bnd fun x h => (Rz.ok ([] : List PV) h).bnd fun xs h => .ok (x :: xs) h).bnd (fun vs h => bltV .int vs h) = _
  rw [h1]; rfl
theorem v_lenT {xs : List PV} (h1 : (ev (cf W n) a).e ρ h = .ok (PV.tup xs) h2) : (ev (cf W n) (.blt .len (.cons a .nil))).e ρ h = .ok (PV.int xs.length) h2 := by
  show (((ev (cf W n) a).e ρ h).bnd fun x h => (Rz.ok ([] : List PV) h).bnd fun xs h => .ok (x :: xs) h).bnd (fun vs h => bltV .len vs h) = _
  rw [h1]; rfl
theorem v_isi {ty : Ty} {k : Bool} (h1 : (ev (cf W n) a).e ρ h = .ok x h2) (h3 : isV ty x h2 = some k) : (ev (cf W n) (.isi ty a)).e ρ h = .ok (PV.bl k) h2 := by
  show ((ev (cf W n) a).e ρ h).bnd (fun x h => match isV ty x h with
    | some b => .ok (PV.bl b) h
    | none => .err) = _
  rw [h1, bnd_ok, h3]
theorem v_bit {i : Int} (h1 : (ev (cf W n) a).e ρ h = .ok (PV.int i) h2) : (ev (cf W n) (.bit a)).e ρ h = .ok (PV.int (Builtin.Int.intBits i : Nat)) h2 := by
  show ((ev (cf W n) a).e ρ h).bnd (fun x h => bitlV x h) = _
  rw [h1]; rfl
theorem g_tn {i : Nat} : (ev (cf W n) (.tn i)).g v ρ h = .ok (ρ.set i (some v)) h := rfl
theorem gs_nil : (ev (cf W n) .nil).gs [] ρ h = .ok ρ h := rfl
theorem gs_cons (h1 : (ev (cf W n) a).g v ρ h = .ok ρ1 h2) (h3 : (ev (cf W n) b).gs vs ρ1 h2 = .ok ρ2 h4) : (ev (cf W n) (.cons a b)).gs (v :: vs) ρ h = .ok ρ2 h4 := by
  show (if (!false || PV.noClos vs) = true then ((ev (cf W n) a).g v ρ h).bnd fun ρ h => (ev (cf W n) b).gs vs ρ h else .err) = _
  rw [if_pos (show (!false || PV.noClos vs) = true from rfl), h1, bnd_ok, h3]
theorem g_tt {xs : List PV} (hl : xs.length = T.len t) (h1 : (ev (cf W n) t).gs xs ρ h = .ok ρ1 h2) : (ev (cf W n) (.tt t)).g (.tup xs) ρ h = .ok ρ1 h2 := by
  show (if xs.length = T.len t then (ev (cf W n) t).gs xs ρ h else .err) = _
  rw [if_pos hl, h1]
/-- suites, one behind the other -/
def SQ (F : Cfg) : List T → En → Hh → Rz Fl
  | [], ρ, h => .ok (Fl.nx ρ) h
  | t :: k, ρ, h => ((ev F t).s ρ h).bnd fun f h => match f with
    | .nx ρ => SQ F k ρ h
    | f => .ok f h
variable {k : List T} {r : T}
theorem q_go (hq : SQ (cf W n) [t] ρ h = R) : (ev (cf W n) t).s ρ h = R := by
  rw [← hq]
  show _ = ((ev (cf W n) t).s ρ h).bnd _
  cases (ev (cf W n) t).s ρ h with
  | ok f h => cases f <;> rfl
  | _ => rfl
theorem q_nil (hq : SQ (cf W n) k ρ h = R) : SQ (cf W n) (.nil :: k) ρ h = R := hq
theorem q_cons : SQ (cf W n) (.cons e r :: k) ρ h = ((ev (cf W n) e).s ρ h).bnd fun f h => match f with
    | .nx ρ => SQ (cf W n) (r :: k) ρ h
    | f => .ok f h := by
  show (((ev (cf W n) e).s ρ h).bnd fun f h => match f with
    | .nx ρ => (ev (cf W n) r).s ρ h
    | f => .ok f h).bnd _ = _
  cases (ev (cf W n) e).s ρ h with
  | ok f h => cases f <;> rfl
  | _ => rfl
theorem q_ret (h1 : (ev (cf W n) e).e ρ h = .ok v h2) : SQ (cf W n) (.cons (.ret e) r :: k) ρ h = .ok (Fl.rt v) h2 := by
  rw [q_cons]
  show (((ev (cf W n) e).e ρ h).bnd fun v h => .ok (Fl.rt v) h).bnd _ = _
  rw [h1]; rfl
theorem q_asg (h1 : (ev (cf W n) e).e ρ h = .ok v h2) (h3 : (ev (cf W n) tg).g v ρ h2 = .ok ρ1 h4) (hq : SQ (cf W n) (r :: k) ρ1 h4 = R) : SQ (cf W n) (.cons (.asg tg e) r :: k) ρ h = R := by
  rw [q_cons]
  show (((ev (cf W n) e).e ρ h).bnd fun v h => ((ev (cf W n) tg).g v ρ h).bnd fun ρ h => .ok (Fl.nx ρ) h).bnd _ = _
  rw [h1, bnd_ok, h3]; exact hq
theorem q_xpr (h1 : (ev (cf W n) e).e ρ h = .ok v h2) (hq : SQ (cf W n) (r :: k) ρ h2 = R) : SQ (cf W n) (.cons (.xpr e) r :: k) ρ h = R := by
  rw [q_cons]
  show (((ev (cf W n) e).e ρ h).bnd fun v h => .ok (Fl.nx ρ) h).bnd _ = _
  rw [h1]; exact hq
theorem q_par2 {i j : Nat} (h1 : (ev (cf W n) a).a ρ h = .ok [x, y] h2) (hq : SQ (cf W n) (r :: k) ((ρ.set i (some x)).set j (some y)) h2 = R) : SQ (cf W n) (.cons (.par [i, j] a) r :: k) ρ h = R := by
  rw [q_cons]
  show (((ev (cf W n) a).a ρ h).bnd fun vs h => parV (cf W n) [i, j] vs ρ h).bnd _ = _
  rw [h1]; exact hq
theorem q_par3 {i j l : Nat} (h1 : (ev (cf W n) a).a ρ h = .ok [x, y, z] h2) (hq : SQ (cf W n) (r :: k) (((ρ.set i (some x)).set j (some y)).set l (some z)) h2 = R) : SQ (cf W n) (.cons (.par [i, j, l] a) r :: k) ρ h = R := by
  rw [q_cons]
  show (((ev (cf W n) a).a ρ h).bnd fun vs h => parV (cf W n) [i, j, l] vs ρ h).bnd _ = _
  rw [h1]; exact hq
theorem q_iffT (h1 : (ev (cf W n) c).t ρ h = .ok true h2) (hq : SQ (cf W n) (a :: r :: k) ρ h2 = R) : SQ (cf W n) (.cons (.iff c a b) r :: k) ρ h = R := by
  rw [q_cons]
  show (((ev (cf W n) c).t ρ h).bnd fun k h => if k = true then (ev (cf W n) a).s ρ h else (ev (cf W n) b).s ρ h).bnd _ = _
  rw [h1]; exact hq
theorem q_iffF (h1 : (ev (cf W n) c).t ρ h = .ok false h2) (hq : SQ (cf W n) (b :: r :: k) ρ h2 = R) : SQ (cf W n) (.cons (.iff c a b) r :: k) ρ h = R := by
  rw [q_cons]
  show (((ev (cf W n) c).t ρ h).bnd fun k h => if k = true then (ev (cf W n) a).s ρ h else (ev (cf W n) b).s ρ h).bnd _ = _
  rw [h1]; exact hq
theorem q_augA {i : Nat} {p q : Int} (hs : slot ρ i = some (.int p)) (h1 : (ev (cf W n) e).e ρ h = .ok (PV.int q) h2) (hq : SQ (cf W n) (r :: k) (ρ.set i (some (.int (p + q)))) h2 = R) : SQ (cf W n) (.cons (.aug i .Add e) r :: k) ρ h = R := by
  rw [q_cons]
  show (match slot ρ i with
    | some x => ((ev (cf W n) e).e ρ h).bnd fun y h => match Operator.Add, x, y with
      | .Add, .int a, .int b => (putS (cf W n) i (.int (a + b)) ρ h).bnd fun ρ h => .ok (Fl.nx ρ) h
      | .Sub, .int a, .int b => (putS (cf W n) i (.int (a - b)) ρ h).bnd fun ρ h => .ok (Fl.nx ρ) h
      | .Mult, .int a, .int b => if EV.MulOk a b then (putS (cf W n) i (.int (a * b)) ρ h).bnd fun ρ h => .ok (Fl.nx ρ) h else .err
      | _, _, _ => .err
    | none => .err).bnd _ = _
  rw [hs]
  dsimp only
  rw [h1]
  exact hq
theorem q_augM {i : Nat} {p q : Int} (hs : slot ρ i = some (.int p)) (h1 : (ev (cf W n) e).e ρ h = .ok (PV.int q) h2) (m : EV.MulOk p q) (hq : SQ (cf W n) (r :: k) (ρ.set i (some (.int (p * q)))) h2 = R) : SQ (cf W n) (.cons (.aug i .Mult e) r :: k) ρ h = R := by
  rw [q_cons]
  show (match slot ρ i with
    | some x => ((ev (cf W n) e).e ρ h).bnd fun y h => match Operator.Mult, x, y with
      | .Add, .int a, .int b => (putS (cf W n) i (.int (a + b)) ρ h).bnd fun ρ h => .ok (Fl.nx ρ) h
      | .Sub, .int a, .int b => (putS (cf W n) i (.int (a - b)) ρ h).bnd fun ρ h => .ok (Fl.nx ρ) h
      | .Mult, .int a, .int b => if EV.MulOk a b then (putS (cf W n) i (.int (a * b)) ρ h).bnd fun ρ h => .ok (Fl.nx ρ) h else .err
      | _, _, _ => .err
    | none => .err).bnd _ = _
  rw [hs]
  dsimp only
  rw [h1, bnd_ok]
  dsimp only
  rw [if_pos m]
  exact hq
theorem q_whl (h1 : whileL (ev (cf W n) c).t (ev (cf W n) b).s W ρ h = .ok (Fl.nx ρ1) h2) (hq : SQ (cf W n) (r :: k) ρ1 h2 = R) : SQ (cf W n) (.cons (.whl c b) r :: k) ρ h = R := by
  rw [q_cons]
  show (whileL (ev (cf W n) c).t (ev (cf W n) b).s W ρ h).bnd _ = _
  rw [h1]; exact hq
theorem q_whlR (h1 : whileL (ev (cf W n) c).t (ev (cf W n) b).s W ρ h = .ok (Fl.rt v) h2) : SQ (cf W n) (.cons (.whl c b) r :: k) ρ h = .ok (Fl.rt v) h2 := by
  rw [q_cons]
  show (whileL (ev (cf W n) c).t (ev (cf W n) b).s W ρ h).bnd _ = _
  rw [h1]; rfl
theorem q_rse {c : Nat} (h1 : (ev (cf W n) e).e ρ h = .ok v h2) : SQ (cf W n) (.cons (.rse c e) r :: k) ρ h = .ex c v h2 := by
  rw [q_cons]
  show (((ev (cf W n) e).e ρ h).bnd fun v h => .ex c v h).bnd _ = _
  rw [h1]; rfl
/-- turns of a while -/
theorem w_end {m : Nat} (h1 : (ev (cf W n) c).t ρ h = .ok false h2) : whileL (ev (cf W n) c).t (ev (cf W n) b).s (m + 1) ρ h = .ok (Fl.nx ρ) h2 := by
  unfold whileL
  rw [h1]; rfl
theorem w_nx {m : Nat} (h1 : (ev (cf W n) c).t ρ h = .ok true h2) (h3 : SQ (cf W n) [b] ρ h2 = .ok (Fl.nx ρ1) h4) (hq : whileL (ev (cf W n) c).t (ev (cf W n) b).s m ρ1 h4 = R) : whileL (ev (cf W n) c).t (ev (cf W n) b).s (m + 1) ρ h = R := by
  unfold whileL
  rw [h1, bnd_ok]
  dsimp only
  rw [q_go h3]; exact hq
theorem w_rt {m : Nat} (h1 : (ev (cf W n) c).t ρ h = .ok true h2) (h3 : SQ (cf W n) [b] ρ h2 = .ok (Fl.rt v) h4) : whileL (ev (cf W n) c).t (ev (cf W n) b).s (m + 1) ρ h = .ok (Fl.rt v) h4 := by
  unfold whileL
  rw [h1, bnd_ok]
  dsimp only
  rw [q_go h3]; rfl
theorem whl_true : (ev (cf W n) (.cst (.bl true))).t ρ h = .ok true h := rfl
end
/-- a truth given -/
theorem tr {α : Type} {f : Bool → Rz α} {k l : Bool} {r : Rz α} (hr : r = f k) (e : k = l) : r = f l := by rw [hr, e]
section
variable {W n : Nat} {ρ : En} {h h2 h4 : Hh} {x : PV} {a b c r : T} {k : List T} {R : Rz Fl} {kk : Bool}
theorem q_iffT' (h1 : (ev (cf W n) c).t ρ h = .ok kk h2) (hk : kk = true) (hq : SQ (cf W n) (a :: r :: k) ρ h2 = R) : SQ (cf W n) (.cons (.iff c a b) r :: k) ρ h = R := by
  subst hk
  exact q_iffT h1 hq
theorem q_iffF' (h1 : (ev (cf W n) c).t ρ h = .ok kk h2) (hk : kk = false) (hq : SQ (cf W n) (b :: r :: k) ρ h2 = R) : SQ (cf W n) (.cons (.iff c a b) r :: k) ρ h = R := by
  subst hk
  exact q_iffF h1 hq
theorem v_ifeT' (h1 : (ev (cf W n) c).t ρ h = .ok kk h2) (hk : kk = true) (h3 : (ev (cf W n) a).e ρ h2 = .ok x h4) : (ev (cf W n) (.ife c a b)).e ρ h = .ok x h4 := by
  subst hk
  exact v_ifeT h1 h3
theorem v_ifeF' (h1 : (ev (cf W n) c).t ρ h = .ok kk h2) (hk : kk = false) (h3 : (ev (cf W n) b).e ρ h2 = .ok x h4) : (ev (cf W n) (.ife c a b)).e ρ h = .ok x h4 := by
  subst hk
  exact v_ifeF h1 h3
theorem w_end' {m : Nat} (h1 : (ev (cf W n) c).t ρ h = .ok kk h2) (hk : kk = false) : whileL (ev (cf W n) c).t (ev (cf W n) b).s (m + 1) ρ h = .ok (.nx ρ) h2 := by
  subst hk
  exact w_end h1
theorem w_nx' {m : Nat} {ρ1 : En} (h1 : (ev (cf W n) c).t ρ h = .ok kk h2) (hk : kk = true) (h3 : SQ (cf W n) [b] ρ h2 = .ok (.nx ρ1) h4) (hq : whileL (ev (cf W n) c).t (ev (cf W n) b).s m ρ1 h4 = R) : whileL (ev (cf W n) c).t (ev (cf W n) b).s (m + 1) ρ h = R := by
  subst hk
  exact w_nx h1 h3 hq
theorem w_rt' {m : Nat} {v : PV} (h1 : (ev (cf W n) c).t ρ h = .ok kk h2) (hk : kk = true) (h3 : SQ (cf W n) [b] ρ h2 = .ok (.rt v) h4) : whileL (ev (cf W n) c).t (ev (cf W n) b).s (m + 1) ρ h = .ok (.rt v) h4 := by
  subst hk
  exact w_rt h1 h3
theorem c_in2 {i a b : Int} : EV.cmpV .In (.int i) (.tup [.int a, .int b]) h = .ok (.bl (a == i || (b == i || false))) h := rfl
theorem q_end : SQ (cf W n) [] ρ h = .ok (.nx ρ) h := rfl
end
theorem le_sz {α : Type} {xs : List α} (h : Nat.ble xs.length 1000 = true) : xs.length ≤ sizeLine := Nat.le_trans (Nat.le_of_ble_eq_true h) (by rw [sizeLine_eq]; decide)
local macro_rules | `(tactic| walk_at "kn") => `(tactic| first
  | assumption
  | exact decide_eq_true (by assumption)
  | exact decide_eq_false (by assumption)
  | rfl
  | (simp only [*, decide_true, decide_false, Bool.not_true, Bool.not_false, Bool.and_self, Bool.or_self, Bool.and_true, Bool.true_and, Bool.or_false, Bool.false_or, Bool.and_false, Bool.false_and, Bool.or_true, Bool.true_or]; done)
  | (simp [*]; done))
local macro_rules | `(tactic| walk_at "sm") => `(tactic| first
  | ((with_reducible show slot _ _ = _); rfl)
  | ((with_reducible show idxV _ _ _ = _); rfl)
  | ((with_reducible show isV _ _ _ = _); rfl)
  | ((with_reducible show List.length _ = T.len _); rfl)
  | ((with_reducible show prog.glob[_]? = _); rfl)
  | ((with_reducible show _ ≤ sizeLine); exact le_sz rfl)
  | ((with_reducible show SQ _ [] _ _ = _); exact q_end)
  | ((with_reducible show EV.Ev.g (EV.ev _ (T.tn _)) _ _ _ = _); exact g_tn)
  | ((with_reducible show EV.Ev.gs (EV.ev _ T.nil) _ _ _ = _); exact gs_nil)
  | ((with_reducible show EV.MulOk _ _); assumption)
  | ((with_reducible show DivOk _); assumption)
  | ((with_reducible show PowOk _ _); assumption)
  | ((with_reducible show _ ≠ _); assumption)
  | ((with_reducible show ¬ _); assumption)
  | ((with_reducible show _ < _); assumption))
local macro_rules | `(tactic| walk_at "ev0") => `(tactic| with_reducible (first | apply v_var | apply v_cst | apply v_bin | apply v_idx | apply v_call | apply v_cmp | apply v_tup | apply v_neg | apply v_nt | apply v_an | apply v_oo | apply v_isi | apply v_glb | apply v_bit | apply v_abs | apply v_lenT | apply v_intB (a := .cmp _ _ _) | apply v_intI | apply a_nil | apply a_cons | apply t_nt | apply t_an | apply t_oo | apply t_cmp | apply t_chn | apply t_var | apply t_call | apply t_cst | apply t_blt | apply t_isi | apply t_isx | apply g_tn | apply g_tt | apply gs_nil | apply gs_cons | apply q_nil | apply q_ret | apply q_asg | apply q_xpr | apply q_rse | apply q_par2 | apply q_par3 | apply q_augA | apply q_augM | apply q_end | apply bi_add | apply bi_sub | apply bi_mul | apply bi_div | apply bi_mod | apply bi_pow | apply bi_subB | apply c_lt | apply c_le | apply c_gt | apply c_ge | apply c_eq | apply c_ne | apply c_eqB | apply c_eqS | apply c_neS | apply c_in2))
local macro_rules | `(tactic| walk_at "evs") => `(tactic| ((repeat' (first | walk_at "ev0" | walk_at "sm" | ((with_reducible apply q_iffT'); (focus (walk_at "evs"; done)); (focus (walk_at "kn"; done))) | ((with_reducible apply q_iffF'); (focus (walk_at "evs"; done)); (focus (walk_at "kn"; done))) | ((with_reducible apply v_ifeT'); (focus (walk_at "evs"; done)); (focus (walk_at "kn"; done))) | ((with_reducible apply v_ifeF'); (focus (walk_at "evs"; done)); (focus (walk_at "kn"; done))) | with_reducible apply v_ife | intro _)); (all_goals (first | walk_at "mk" | walk_at "bw" | assumption | skip))))
local macro_rules | `(tactic| exists $ts,*) => do
    let alts ← ts.getElems.mapM fun t => `(tacticSeq| with_reducible apply $t)
    let alt2 ← ts.getElems.mapM fun t => `(tacticSeq| ((with_reducible show EV.evN _ _ _ _ _ _ = _); apply $t))
    `(tactic| ((repeat' (first | walk_at "ev0" | walk_at "sm" | ((with_reducible apply q_iffT'); (focus (exists $ts,*; done)); (focus (walk_at "kn"; done))) | ((with_reducible apply q_iffF'); (focus (exists $ts,*; done)); (focus (walk_at "kn"; done))) | ((with_reducible apply v_ifeT'); (focus (exists $ts,*; done)); (focus (walk_at "kn"; done))) | ((with_reducible apply v_ifeF'); (focus (exists $ts,*; done)); (focus (walk_at "kn"; done))) | with_reducible apply v_ife $[| $alts]* | intro _ $[| $alt2]*)); (all_goals (first | walk_at "mk" | walk_at "bw" | assumption | skip))))
/-! ### the sign of an int, of x + y√d -/
def sgi (i : Int) : Int := if i = 0 then 0 else if 0 < i then 1 else -1
theorem e12 {W n : Nat} (i : Int) (h : Hh) : evN (PW W) (n + 1) true 12 [.int i] h = .ok (.int (sgi i)) h := by
  refine callP (d := d12) (h1 := []) rfl rfl rfl rfl rfl rfl (q_go ?_)
  dsimp only [d12, List.map, List.replicate, Nat.sub, List.cons_append, List.nil_append]
  unfold sgi
  by_cases h0 : i = 0
  · rw [if_pos h0]
    walk_at "evs"
  · rw [if_neg h0]
    by_cases h1 : 0 < i
    · rw [if_pos h1]
      walk_at "evs"
    · rw [if_neg h1]
      walk_at "evs"
def sgu (x y d : Int) : Int :=
  if 0 < d then (if sgi y = 0 ∨ sgi x = sgi y then sgi x else if sgi x = 0 then sgi y else sgi x * sgi (x * x - y * y * d)) else sgi x
theorem sgi_le (i : Int) : (sgi i).natAbs ≤ 1 := by
  unfold sgi
  split
  · decide
  · split <;> decide
theorem sgu_le (x y d : Int) : (sgu x y d).natAbs ≤ 1 := by
  have a := sgi_le x
  have b := sgi_le y
  have c := sgi_le (x * x - y * y * d)
  unfold sgu
  split
  · split
    · exact a
    · split
      · exact b
      · rw [Int.natAbs_mul]
        exact Nat.le_trans (Nat.mul_le_mul a c) (by decide)
  · exact a
theorem sMul {p q : Int} (hp : p.natAbs ≤ 1) (hq : q.natAbs ≤ 1) : EV.MulOk p q := mulOk (a := 1) (b := 1) (by omega) (by omega)
theorem e13 {W n : Nat} {x y d : Int} (hx : x.natAbs < 2 ^ 100000) (hy : y.natAbs < 2 ^ 100000) (hd : d.natAbs < 2 ^ 100000) (h : Hh) : evN (PW W) (n + 2) true 13 [.int x, .int y, .int d] h = .ok (.int (sgu x y d)) h := by
  refine callP (d := d13) (h1 := []) rfl rfl rfl rfl rfl rfl (q_go ?_)
  dsimp only [d13, List.map, List.replicate, Nat.sub, List.cons_append, List.nil_append]
  have m1 := mulOk hx hx
  have m2 := mulOk hy hy
  have m3 := mulOk (b_mul hy hy) hd
  have m4 := sMul (sgi_le x) (sgi_le (x * x - y * y * d))
  unfold sgu
  by_cases h0 : 0 < d
  · by_cases h1 : sgi y = 0
    · simp only [h0, h1, if_true, true_or]
      exists e12
    · by_cases h2 : sgi x = sgi y
      · rw [if_pos h0, if_pos (.inr h2)]
        exists e12
      · by_cases h3 : sgi x = 0
        · have h2' : ¬ (0 = sgi y) := by omega
          simp only [h0, h1, h2', h3, if_true, if_false, false_or]
          exists e12
        · simp only [h0, h1, h2, h3, if_true, if_false, false_or]
          exists e12
  · simp only [h0, if_false]
    exists e12
/-- a value of ints -/
abbrev I2 (p : Int × Int) : PV := .tup [.int p.1, .int p.2]
theorem abs_eq (i : Int) : (if i < 0 then -i else i) = (i.natAbs : Int) := by split <;> omega
theorem gcd_loop {W n : Nat} {h : Hh} : ∀ (m a b : Nat), b < m →
    whileL (ev (cf W n) (.cmp .NotEq (.var 1) (.cst (.int 0)))).t (ev (cf W n) (.cons (.par [0, 1] (.cons (.var 1) (.cons (.bin .Mod (.var 0) (.var 1)) .nil))) .nil)).s m [some (.int a), some (.int b)] h = .ok (.nx [some (.int (Nat.gcd a b : Nat)), some (.int 0)]) h
  | 0, a, b, hb => by omega
  | m + 1, a, b, hb => by
    by_cases h0 : b = 0
    · subst h0
      rw [Nat.gcd_zero_right]
      refine w_end' (kk := !decide (((0 : Nat) : Int) = 0)) (h2 := h) ?_ rfl
      walk_at "evs"
    · have hb' : (b : Int) ≠ 0 := by omega
      refine w_nx' (kk := !decide ((b : Int) = 0)) (h2 := h) (h4 := h) (ρ1 := [some (.int b), some (.int (a % b : Nat))]) ?_ (by simp [h0]) ?_ ?_
      · walk_at "evs"
      · rw [show ((a % b : Nat) : Int) = Int.fmod a b from Int.ofNat_fmod a b]
        walk_at "evs"
      · rw [show Nat.gcd a b = Nat.gcd b (a % b) from by rw [Nat.gcd_comm, Nat.gcd_rec, Nat.gcd_comm]]
        exact gcd_loop m b (a % b) (by have := Nat.mod_lt a (Nat.pos_of_ne_zero h0); omega)
theorem e3 {W n : Nat} {x y : Int} (hW : y.natAbs < W) (h : Hh) : evN (PW W) (n + 1) true 3 [.int x, .int y] h = .ok (.int (Int.gcd x y : Nat)) h := by
  refine callP (d := d3) (h1 := []) rfl rfl rfl rfl rfl rfl (q_go ?_)
  dsimp only [d3, List.map, List.replicate, Nat.sub, List.cons_append, List.nil_append]
  walk_at "ev0"
  · walk_at "evs"
  rw [abs_eq, abs_eq]
  refine q_whl (h2 := []) (ρ1 := [some (.int (Nat.gcd x.natAbs y.natAbs : Nat)), some (.int 0)]) (gcd_loop W x.natAbs y.natAbs hW) ?_
  walk_at "evs"
theorem e34 {W n : Nat} {x y : Int} (hW : y.natAbs < W) (h : Hh) : evN (PW W) (n + 1) true 34 [.int x, .int y] h = .ok (.int (Int.gcd x y : Nat)) h := by
  refine callP (d := d34) (h1 := []) rfl rfl rfl rfl rfl rfl (q_go ?_)
  dsimp only [d34, List.map, List.replicate, Nat.sub, List.cons_append, List.nil_append]
  walk_at "ev0"
  · walk_at "evs"
  rw [abs_eq, abs_eq]
  refine q_whl (h2 := []) (ρ1 := [some (.int (Nat.gcd x.natAbs y.natAbs : Nat)), some (.int 0)]) (gcd_loop W x.natAbs y.natAbs hW) ?_
  walk_at "evs"
/-- the fraction of two ints, in lowest terms -/
def gg (t b : Int) : Int := if b < 0 then -(Int.gcd t b : Int) else Int.gcd t b
def rateF (t b : Int) : Int × Int := (t.fdiv (gg t b), b.fdiv (gg t b))
theorem gg_abs (t b : Int) : (gg t b).natAbs = Int.gcd t b := by
  unfold gg
  split <;> simp
theorem gg_div {t b : Int} (hb : b ≠ 0) (hs : b.natAbs < 2 ^ 8000) : DivOk (gg t b) := by
  have h1 : Int.gcd t b ≠ 0 := fun z => hb (Int.gcd_eq_zero_iff.mp z).2
  have h2 : Int.gcd t b ≤ b.natAbs := Nat.le_of_dvd (by omega) (by have := Int.gcd_dvd_natAbs_right t b; exact this)
  refine ⟨fun z => h1 (by rw [← gg_abs, z]; rfl), ?_⟩
  rw [gg_abs]
  exact Nat.lt_of_lt_of_le ((Nat.log2_lt h1).mpr (Nat.lt_of_le_of_lt h2 hs)) (by decide)
theorem e4 {W n : Nat} {t b : Int} (hb : b ≠ 0) (hs : b.natAbs < 2 ^ 8000) (hW : 2 ^ 8000 ≤ W) (h : Hh) : evN (PW W) (n + 2) true 4 [.int t, .int b] h = .ok (I2 (rateF t b)) h := by
  refine callP (d := d4) (h1 := []) rfl rfl rfl rfl rfl rfl (q_go ?_)
  dsimp only [d4, List.map, List.replicate, Nat.sub, List.cons_append, List.nil_append]
  have hw : b.natAbs < W := Nat.lt_of_lt_of_le hs hW
  have dk := gg_div (t := t) hb hs
  unfold rateF
  by_cases h0 : b < 0
  · have e : gg t b = -(Int.gcd t b : Int) := if_pos h0
    rw [e] at dk ⊢
    exists e3
    all_goals exact hw
  · have e : gg t b = (Int.gcd t b : Int) := if_neg h0
    rw [e] at dk ⊢
    exists e3
    all_goals exact hw
theorem gg_alt {t b : Int} (hb : b ≠ 0) : (Int.gcd t b : Int) * (if 0 < b then 1 else -1) = gg t b := by
  unfold gg
  by_cases h : b < 0
  · rw [if_pos h, if_neg (by omega)]; omega
  · rw [if_neg h, if_pos (by omega)]; omega
theorem gcd_le {t b : Int} (hb : b ≠ 0) : Int.gcd t b ≤ b.natAbs := Nat.le_of_dvd (by omega) (by have := Int.gcd_dvd_natAbs_right t b; exact this)
theorem e35 {W n : Nat} {t b : Int} (hb : b ≠ 0) (hs : b.natAbs < 2 ^ 8000) (hW : 2 ^ 8000 ≤ W) (h : Hh) : evN (PW W) (n + 2) true 35 [.int t, .int b] h = .ok (I2 (rateF t b)) h := by
  refine callP (d := d35) (h1 := []) rfl rfl rfl rfl rfl rfl (q_go ?_)
  dsimp only [d35, List.map, List.replicate, Nat.sub, List.cons_append, List.nil_append]
  have hw : b.natAbs < W := Nat.lt_of_lt_of_le hs hW
  have dk := gg_div (t := t) hb hs
  have g8 : ((Int.gcd t b : Nat) : Int).natAbs < 2 ^ 8000 := Nat.lt_of_le_of_lt (gcd_le hb) hs
  unfold rateF
  rw [← gg_alt hb] at dk ⊢
  by_cases h0 : 0 < b
  · rw [if_pos h0] at dk ⊢
    have m : EV.MulOk (Int.gcd t b : Int) 1 := mulOk (b := 1) g8 (by decide)
    exists e34
    all_goals exact hw
  · rw [if_neg h0] at dk ⊢
    have m : EV.MulOk (Int.gcd t b : Int) (-1) := mulOk (b := 1) g8 (by decide)
    exists e34
    all_goals exact hw
/-- so many bits -/
abbrev Bd (k : Nat) (x : Int) : Prop := x.natAbs < 2 ^ k
theorem one_bd : Bd 3900 1 := Nat.lt_of_lt_of_le (show (1 : Int).natAbs < 2 ^ 1 from by decide) (Nat.pow_le_pow_right (by decide) (by decide))
abbrev Bd2 (k : Nat) (p : Int × Int) : Prop := Bd k p.1 ∧ Bd k p.2
def plusF (p q : Int × Int) : Int × Int := rateF (p.1 * q.2 + q.1 * p.2) (p.2 * q.2)
def timesF (p q : Int × Int) : Int × Int := rateF (p.1 * q.1) (p.2 * q.2)
theorem e7 {W n : Nat} {p q : Int × Int} (hp : Bd2 3900 p) (hq : Bd2 3900 q) (p0 : p.2 ≠ 0) (q0 : q.2 ≠ 0) (hW : 2 ^ 8000 ≤ W) (h : Hh) : evN (PW W) (n + 3) true 7 [I2 p, I2 q] h = .ok (I2 (plusF p q)) h := by
  refine callP (d := d7) (h1 := []) rfl rfl rfl rfl rfl rfl (q_go ?_)
  dsimp only [d7, List.map, List.replicate, Nat.sub, List.cons_append, List.nil_append]
  have m1 := mulOk hp.1 hq.2
  have m2 := mulOk hq.1 hp.2
  have m3 := mulOk hp.2 hq.2
  have b3 : (p.2 * q.2).natAbs < 2 ^ 8000 := b_mono (b_mul hp.2 hq.2) (by decide)
  have n3 : p.2 * q.2 ≠ 0 := Int.mul_ne_zero p0 q0
  unfold plusF
  exists e4
theorem e8 {W n : Nat} {p q : Int × Int} (hp : Bd2 3900 p) (hq : Bd2 3900 q) (p0 : p.2 ≠ 0) (q0 : q.2 ≠ 0) (hW : 2 ^ 8000 ≤ W) (h : Hh) : evN (PW W) (n + 3) true 8 [I2 p, I2 q] h = .ok (I2 (timesF p q)) h := by
  refine callP (d := d8) (h1 := []) rfl rfl rfl rfl rfl rfl (q_go ?_)
  dsimp only [d8, List.map, List.replicate, Nat.sub, List.cons_append, List.nil_append]
  have m1 := mulOk hp.1 hq.1
  have m3 := mulOk hp.2 hq.2
  have b3 : (p.2 * q.2).natAbs < 2 ^ 8000 := b_mono (b_mul hp.2 hq.2) (by decide)
  have n3 : p.2 * q.2 ≠ 0 := Int.mul_ne_zero p0 q0
  unfold timesF
  exists e4
/-- an element: u + v√d -/
structure El where
  u : Int × Int
  v : Int × Int
  d : Int
def IE (e : El) : PV := .tup [I2 e.u, I2 e.v, .int e.d]
def plainF (p : Int × Int) : El := ⟨p, (0, 1), 0⟩
def madeF (u v : Int × Int) (d : Int) : El := if v.1 ≠ 0 then ⟨u, v, d⟩ else plainF u
def scaledF (e : El) (f : Int) : El := madeF (timesF e.u (f, 1)) (timesF e.v (f, 1)) e.d
theorem e9 {W n : Nat} {p : Int × Int} (h : Hh) : evN (PW W) (n + 1) true 9 [I2 p] h = .ok (IE (plainF p)) h := by
  refine callP (d := d9) (h1 := []) rfl rfl rfl rfl rfl rfl (q_go ?_)
  dsimp only [d9, List.map, List.replicate, Nat.sub, List.cons_append, List.nil_append]
  unfold IE plainF
  walk_at "evs"
theorem e10 {W n : Nat} {u v : Int × Int} {d : Int} (h : Hh) : evN (PW W) (n + 1) true 10 [I2 u, I2 v, .int d] h = .ok (IE (madeF u v d)) h := by
  refine callP (d := d10) (h1 := []) rfl rfl rfl rfl rfl (by unfold madeF; split <;> rfl) (q_go ?_)
  dsimp only [d10, List.map, List.replicate, Nat.sub, List.cons_append, List.nil_append]
  unfold IE madeF plainF
  by_cases h0 : v.1 = 0
  · rw [if_neg (by simp [h0])]
    walk_at "evs"
  · rw [if_pos h0]
    walk_at "evs"
theorem e11 {W n : Nat} {e : El} {f : Int} (hu : Bd2 3900 e.u) (hv : Bd2 3900 e.v) (u0 : e.u.2 ≠ 0) (v0 : e.v.2 ≠ 0) (hf : Bd 3900 f) (hW : 2 ^ 8000 ≤ W) (h : Hh) : evN (PW W) (n + 4) true 11 [IE e, I2 (f, 1)] h = .ok (IE (scaledF e f)) h := by
  refine callP (d := d11) (h1 := []) rfl rfl rfl rfl rfl (by unfold IE; rfl) (q_go ?_)
  dsimp only [d11, List.map, List.replicate, Nat.sub, List.cons_append, List.nil_append]
  have hf2 : Bd2 3900 (f, 1) := ⟨hf, one_bd⟩
  have f0 : ((f, 1) : Int × Int).2 ≠ 0 := Int.one_ne_zero
  unfold scaledF
  have t1 := fun h => e8 (W := W) (n := n) hu hf2 u0 f0 hW h
  have t2 := fun h => e8 (W := W) (n := n) hv hf2 v0 f0 hW h
  have t3 := fun h => e10 (W := W) (n := n + 2) (u := timesF e.u (f, 1)) (v := timesF e.v (f, 1)) (d := e.d) h
  unfold IE at t3 ⊢
  exists t1, t2, t3
/-! ### roots of ints -/
/-- the greatest int whose square is at most n, by halving -/
def bis : Nat → Nat → Nat → Nat → Nat
  | 0, _, lo, _ => lo
  | m + 1, n, lo, hi => if hi - lo > 1 then (if (lo + hi) / 2 * ((lo + hi) / 2) ≤ n then bis m n ((lo + hi) / 2) hi else bis m n lo ((lo + hi) / 2)) else lo
def isq (n : Nat) : Nat := bis (n + 1) n 0 (n + 1)
theorem bis_ok : ∀ (m n lo hi : Nat), lo < hi → hi - lo ≤ m → lo * lo ≤ n → n < hi * hi → bis m n lo hi * bis m n lo hi ≤ n ∧ n < (bis m n lo hi + 1) * (bis m n lo hi + 1)
  | 0, n, lo, hi, h1, h2, h3, h4 => by omega
  | m + 1, n, lo, hi, h1, h2, h3, h4 => by
    unfold bis
    by_cases h : hi - lo > 1
    · rw [if_pos h]
      by_cases hm : (lo + hi) / 2 * ((lo + hi) / 2) ≤ n
      · rw [if_pos hm]
        exact bis_ok m n _ hi (by omega) (by omega) hm h4
      · rw [if_neg hm]
        exact bis_ok m n lo _ (by omega) (by omega) h3 (by omega)
    · rw [if_neg h]
      have : hi = lo + 1 := by omega
      rw [this] at h4
      exact ⟨h3, h4⟩
theorem isq_ok (n : Nat) : isq n * isq n ≤ n ∧ n < (isq n + 1) * (isq n + 1) := by
  refine bis_ok (n + 1) n 0 (n + 1) (by omega) (by omega) (by omega) ?_
  have : (n + 1) * 1 ≤ (n + 1) * (n + 1) := Nat.mul_le_mul_left _ (by omega)
  omega
theorem sq_lt {a b : Nat} (h : a < b) : a * a < b * b := Nat.mul_lt_mul_of_lt_of_le h (Nat.le_of_lt h) (by omega)
theorem sq_le {a b : Nat} (h : a ≤ b) : a * a ≤ b * b := Nat.mul_le_mul h h
theorem isq_uniq {n r : Nat} (h1 : r * r ≤ n) (h2 : n < (r + 1) * (r + 1)) : isq n = r := by
  obtain ⟨k1, k2⟩ := isq_ok n
  rcases Nat.lt_trichotomy (isq n) r with h | h | h
  · have := sq_le (Nat.succ_le_of_lt h)
    have e : (isq n).succ = isq n + 1 := rfl
    rw [e] at this
    omega
  · exact h
  · have := sq_le (Nat.succ_le_of_lt h)
    have e : r.succ = r + 1 := rfl
    rw [e] at this
    omega
theorem isq_le (n : Nat) : isq n ≤ n := by
  obtain ⟨k1, _⟩ := isq_ok n
  rcases Nat.eq_zero_or_pos (isq n) with h | h
  · omega
  · have : isq n * 1 ≤ isq n * isq n := Nat.mul_le_mul_left _ h
    omega
theorem rt_loop {W n : Nat} {h : Hh} {N : Nat} (hN : N < 2 ^ 90000) : ∀ (m lo hi : Nat) (x : Option PV), lo < hi → hi - lo ≤ m → hi ≤ N + 1 → lo * lo ≤ N → N < hi * hi →
    ∃ x' hi', whileL (ev (cf W n) (.cmp .Gt (.bin .Sub (.var 2) (.var 1)) (.cst (.int 1)))).t (ev (cf W n) (.cons (.asg (.tn 3) (.bin .FloorDiv (.bin .Add (.var 1) (.var 2)) (.cst (.int 2)))) (.cons (.asg (.tt (.cons (.tn 1) (.cons (.tn 2) .nil))) (.ife (.cmp .LtE (.bin .Mult (.var 3) (.var 3)) (.var 0)) (.tup (.cons (.var 3) (.cons (.var 2) .nil))) (.tup (.cons (.var 1) (.cons (.var 3) .nil))))) .nil))).s m
      [some (.int N), some (.int lo), some (.int hi), x] h = .ok (.nx [some (.int N), some (.int (isq N : Nat)), hi', x']) h
  | 0, lo, hi, x, h1, h2, h3, h4, h5 => by omega
  | m + 1, lo, hi, x, h1, h2, h3, h4, h5 => by
    by_cases hd : hi - lo > 1
    · have dm : DivOk (2 : Int) := by decide
      have mid : ((lo : Int) + hi).fdiv 2 = (((lo + hi) / 2 : Nat) : Int) := by rw [← Int.natCast_add]; exact (Int.ofNat_fdiv (lo + hi) 2).symm
      have bm : Bd 90000 (((lo + hi) / 2 : Nat) : Int) := by show (lo + hi) / 2 < 2 ^ 90000; omega
      have mm := mulOk bm bm
      by_cases hm : (lo + hi) / 2 * ((lo + hi) / 2) ≤ N
      · obtain ⟨x', hi', ih⟩ := rt_loop hN (h := h) (n := n) (W := W) m ((lo + hi) / 2) hi (some (.int (((lo + hi) / 2 : Nat) : Int))) (by omega) (by omega) h3 hm h5
        refine ⟨x', hi', w_nx' (kk := decide ((1 : Int) < (hi : Int) - lo)) (h2 := h) (h4 := h) (ρ1 := [some (.int N), some (.int (((lo + hi) / 2 : Nat) : Int)), some (.int hi), some (.int (((lo + hi) / 2 : Nat) : Int))]) ?_ (decide_eq_true (by omega)) ?_ ih⟩
        · walk_at "evs"
        · have hk : (((lo + hi) / 2 : Nat) : Int) * (((lo + hi) / 2 : Nat) : Int) ≤ (N : Int) := by rw [← Int.natCast_mul]; exact Int.ofNat_le.mpr hm
          rw [← mid] at mm hk ⊢
          walk_at "evs"
      · obtain ⟨x', hi', ih⟩ := rt_loop hN (h := h) (n := n) (W := W) m lo ((lo + hi) / 2) (some (.int (((lo + hi) / 2 : Nat) : Int))) (by omega) (by omega) (by omega) h4 (by omega)
        refine ⟨x', hi', w_nx' (kk := decide ((1 : Int) < (hi : Int) - lo)) (h2 := h) (h4 := h) (ρ1 := [some (.int N), some (.int lo), some (.int (((lo + hi) / 2 : Nat) : Int)), some (.int (((lo + hi) / 2 : Nat) : Int))]) ?_ (decide_eq_true (by omega)) ?_ ih⟩
        · walk_at "evs"
        · have hk : ¬ (((lo + hi) / 2 : Nat) : Int) * (((lo + hi) / 2 : Nat) : Int) ≤ (N : Int) := by rw [← Int.natCast_mul]; exact fun z => hm (Int.ofNat_le.mp z)
          rw [← mid] at mm hk ⊢
          walk_at "evs"
    · refine ⟨x, some (.int hi), ?_⟩
      have e : hi = lo + 1 := by omega
      rw [e] at h5
      rw [isq_uniq h4 h5]
      refine w_end' (kk := decide ((1 : Int) < (hi : Int) - lo)) (h2 := h) ?_ (decide_eq_false (by omega))
      walk_at "evs"
theorem e36 {W n N : Nat} (hN : N < 2 ^ 90000) (hW : N + 1 ≤ W) (h : Hh) : evN (PW W) (n + 1) true 36 [.int N] h = .ok (.int (isq N : Nat)) h := by
  obtain ⟨x', hi', lp⟩ := rt_loop (W := W) (n := n) (h := []) hN W 0 (N + 1) none (by omega) (by omega) (by omega) (by omega) (by
    have : (N + 1) * 1 ≤ (N + 1) * (N + 1) := Nat.mul_le_mul_left _ (by omega)
    omega)
  refine callP (d := d36) (h1 := []) rfl rfl rfl rfl rfl rfl (q_go ?_)
  dsimp only [d36, List.map, List.replicate, Nat.sub, List.cons_append, List.nil_append]
  walk_at "ev0"
  · walk_at "evs"
  refine q_whl (h2 := []) (ρ1 := [some (.int N), some (.int (isq N : Nat)), hi', x']) lp ?_
  walk_at "evs"
/-! by Newton's steps -/
theorem newton_ok {N h : Nat} (h0 : 0 < h) : N < ((h + N / h) / 2 + 1) * ((h + N / h) / 2 + 1) := by
  have hq : N < (N / h + 1) * h := by
    have := Nat.div_add_mod N h
    have := Nat.mod_lt N h0
    rw [Nat.add_mul, Nat.mul_comm (N / h) h]
    omega
  generalize N / h = q at hq ⊢
  generalize hk : (h + q) / 2 = k
  have hk2 : h + q + 1 ≤ 2 * (k + 1) := by omega
  have s1 : (h + q + 1) * (h + q + 1) ≤ (2 * (k + 1)) * (2 * (k + 1)) := sq_le hk2
  have am : 4 * (h * (q + 1)) ≤ (h + q + 1) * (h + q + 1) := by
    have e : ((h + q + 1 : Nat) : Int) * (h + q + 1 : Nat) - 4 * ((h * (q + 1) : Nat) : Int) = ((h : Int) - (q + 1)) * ((h : Int) - (q + 1)) := by
      push_cast
      grind
    have p : (0 : Int) ≤ ((h : Int) - (q + 1)) * ((h : Int) - (q + 1)) := by
      rcases Int.le_total 0 ((h : Int) - (q + 1)) with z | z
      · exact Int.mul_nonneg z z
      · exact Int.mul_nonneg_of_nonpos_of_nonpos z z
    omega
  have e2 : (2 * (k + 1)) * (2 * (k + 1)) = 4 * ((k + 1) * (k + 1)) := by grind
  have e3 : (q + 1) * h = h * (q + 1) := Nat.mul_comm _ _
  omega
theorem divOk_nat {k : Nat} (h0 : 0 < k) (hk : k < 2 ^ 8500) : DivOk (k : Int) := by
  refine ⟨by omega, ?_⟩
  have e : ((k : Nat) : Int).natAbs = k := rfl
  rw [e]
  exact Nat.lt_of_lt_of_le ((Nat.log2_lt (by omega)).mpr hk) (by decide)
theorem nw_loop {W n : Nat} {h : Hh} {N : Nat} (hN : 2 ≤ N) : ∀ (m k : Nat) (x : Option PV), 0 < k → k < m → k < 2 ^ 8500 → N < (k + 1) * (k + 1) →
    whileL (ev (cf W n) (.cst (.bl true))).t (ev (cf W n) (.cons (.asg (.tn 2) (.bin .FloorDiv (.bin .Add (.var 1) (.bin .FloorDiv (.var 0) (.var 1))) (.cst (.int 2)))) (.cons (.iff (.cmp .GtE (.var 2) (.var 1)) (.cons (.ret (.var 1)) .nil) .nil) (.cons (.asg (.tn 1) (.var 2)) .nil)))).s m
      [some (.int N), some (.int k), x] h = .ok (.rt (.int (isq N : Nat))) h
  | 0, k, x, h0, h1, h2, h3 => by omega
  | m + 1, k, x, h0, h1, h2, h3 => by
    have dk := divOk_nat h0 h2
    have d2 : DivOk (2 : Int) := by decide
    have e1 : ((N : Int)).fdiv k = ((N / k : Nat) : Int) := (Int.ofNat_fdiv N k).symm
    have e2 : ((k : Int) + ((N : Int)).fdiv k).fdiv 2 = (((k + N / k) / 2 : Nat) : Int) := by rw [e1, ← Int.natCast_add]; exact (Int.ofNat_fdiv _ 2).symm
    by_cases hc : k ≤ (k + N / k) / 2
    · have hk : (k : Int) ≤ ((k : Int) + ((N : Int)).fdiv k).fdiv 2 := by rw [e2]; exact Int.ofNat_le.mpr hc
      have q : k * k ≤ N := by
        have : k ≤ N / k := by omega
        exact Nat.le_trans (Nat.mul_le_mul_left k this) (Nat.mul_div_le N k)
      rw [isq_uniq q h3]
      refine w_rt' (kk := true) (h2 := h) ?_ rfl ?_
      · walk_at "evs"
      · walk_at "evs"
    · have hk : ¬ (k : Int) ≤ ((k : Int) + ((N : Int)).fdiv k).fdiv 2 := by rw [e2]; exact fun z => hc (Int.ofNat_le.mp z)
      have pos : 0 < (k + N / k) / 2 := by
        rcases Nat.lt_or_ge k 2 with z | z
        · have : k = 1 := by omega
          subst this
          rw [Nat.div_one]
          omega
        · generalize N / k = q
          omega
      refine w_nx' (kk := true) (h2 := h) (h4 := h) (ρ1 := [some (.int N), some (.int (((k + N / k) / 2 : Nat) : Int)), some (.int (((k + N / k) / 2 : Nat) : Int))]) ?_ rfl ?_ (nw_loop hN m _ _ pos (by omega) (by omega) (newton_ok h0))
      · walk_at "evs"
      · rw [← e2]
        walk_at "evs"
theorem bits_lt {N : Nat} (h : N ≠ 0) : N < 2 ^ Builtin.Int.intBits N ∧ Builtin.Int.intBits N = N.log2 + 1 := by
  have e : Builtin.Int.intBits (N : Int) = N.log2 + 1 := by
    unfold Builtin.Int.intBits
    rw [if_neg (by simp; omega)]
    rfl
  rw [e]
  exact ⟨(Nat.log2_lt h).mp (Nat.lt_succ_self _), rfl⟩
theorem sh_eq {j : Nat} {h : Hh} (hj : j ≤ 1000000) : EV.binV .LShift (.int 1) (.int j) h = .ok (.int ((2 ^ j : Nat) : Int)) h := by
  unfold EV.binV
  show (if 0 ≤ (j : Int) ∧ (j : Int) ≤ 1000000 ∧ (1 : Int).natAbs < 2 ^ 64 then Rz.ok (PV.int (1 * 2 ^ ((j : Int)).toNat)) h else .err) = _
  rw [if_pos ⟨by omega, by omega, by decide⟩, Int.toNat_natCast, Int.one_mul]
  rw [Int.natCast_pow]
  rfl
theorem e2 {W n N : Nat} (hN : N < 2 ^ 8000) (hW : 2 ^ 8000 ≤ W) (h : Hh) : evN (PW W) (n + 1) true 2 [.int N] h = .ok (.int (isq N : Nat)) h := by
  refine callP (d := d2) (h1 := []) rfl rfl rfl rfl rfl rfl (q_go ?_)
  dsimp only [d2, List.map, List.replicate, Nat.sub, List.cons_append, List.nil_append]
  by_cases h2 : N < 2
  · have k1 : (N : Int) < 2 := by omega
    have e : isq N = N := isq_uniq (by rcases (by omega : N = 0 ∨ N = 1) with z | z <;> subst z <;> decide) (by rcases (by omega : N = 0 ∨ N = 1) with z | z <;> subst z <;> decide)
    rw [e]
    walk_at "evs"
  · have k1 : ¬ (N : Int) < 2 := by omega
    obtain ⟨b1, b2⟩ := bits_lt (N := N) (by omega)
    have l1 : N.log2 < 8000 := (Nat.log2_lt (by omega)).mpr hN
    have d2' : DivOk (2 : Int) := by decide
    generalize hB : Builtin.Int.intBits (N : Int) = B at b1 b2
    have ej : (((B : Nat) : Int) + 1).fdiv 2 = (((B + 1) / 2 : Nat) : Int) := by
      have := (Int.ofNat_fdiv (B + 1) 2).symm
      rw [Int.natCast_add] at this
      exact this
    have big : N < (2 ^ ((B + 1) / 2) + 1) * (2 ^ ((B + 1) / 2) + 1) := by
      have e1 : 2 ^ B ≤ 2 ^ ((B + 1) / 2) * 2 ^ ((B + 1) / 2) := by
        rw [← Nat.pow_add]
        exact Nat.pow_le_pow_right (by decide) (by omega)
      have e2 := sq_lt (Nat.lt_succ_self (2 ^ ((B + 1) / 2)))
      exact Nat.lt_trans (Nat.lt_of_lt_of_le b1 e1) e2
    have small : 2 ^ ((B + 1) / 2) < 2 ^ 8000 := Nat.pow_lt_pow_right (by decide) (by omega)
    have lp := nw_loop (W := W) (n := n) (h := []) (N := N) (by omega) W (2 ^ ((B + 1) / 2)) none (Nat.pow_pos (by decide)) (Nat.lt_of_lt_of_le small hW) (Nat.lt_trans small (Nat.pow_lt_pow_right (by decide) (by decide))) big
    refine q_iffF' (kk := decide ((N : Int) < 2)) (h2 := []) ?_ (decide_eq_false k1) ?_
    · walk_at "evs"
    walk_at "ev0"
    refine q_asg (v := .int ((2 ^ ((B + 1) / 2) : Nat) : Int)) (h2 := []) (h4 := []) (ρ1 := [some (.int N), some (.int ((2 ^ ((B + 1) / 2) : Nat) : Int)), none]) ?_ ?_ ?_
    · refine v_bin (h2 := []) (h4 := []) (x := .int 1) (y := .int (((B + 1) / 2 : Nat) : Int)) ?_ ?_ (sh_eq (by omega))
      · walk_at "evs"
      · rw [← ej, ← hB]
        walk_at "evs"
    · walk_at "evs"
    · exact q_whlR lp
/-! ### sizes by themselves -/
theorem mulOk' {x y : Int} {a b : Nat} (hx : Bd a x) (hy : Bd b y) (h : Nat.ble (a + b) 999999 = true) : EV.MulOk x y := mulOk hx hy (by have := Nat.le_of_ble_eq_true h; omega)
theorem bd0 : Bd 1 0 := by decide
theorem bd1 : Bd 1 1 := by decide
theorem bdm1 : Bd 1 (-1) := by decide
theorem bd2 : Bd 2 2 := by decide
theorem bdm2 : Bd 2 (-2) := by decide
theorem bd4 : Bd 3 4 := by decide
theorem bd1024 : Bd 11 1024 := by decide
theorem bdMul {x y : Int} {a b : Nat} (hx : Bd a x) (hy : Bd b y) : Bd (a + b) (x * y) := b_mul hx hy
theorem bdAdd {x y : Int} {a b : Nat} (hx : Bd a x) (hy : Bd b y) : Bd (max a b + 1) (x + y) := b_add hx hy
theorem bdSub {x y : Int} {a b : Nat} (hx : Bd a x) (hy : Bd b y) : Bd (max a b + 1) (x - y) := b_sub hx hy
theorem bdNeg {x : Int} {a : Nat} (hx : Bd a x) : Bd a (-x) := b_neg hx
theorem bdW {x : Int} {a b : Nat} (hx : Bd a x) (h : Nat.ble a b = true) : Bd b x := b_mono hx (Nat.le_of_ble_eq_true h)
local macro_rules | `(tactic| walk_at "bdd") => `(tactic| repeat' (first | assumption | exact bd0 | exact bd1 | exact bdm1 | exact bd2 | exact bdm2 | exact bd4 | exact bd1024 | apply bdMul | apply bdAdd | apply bdSub | apply bdNeg))
local macro_rules | `(tactic| walk_at "mk") => `(tactic| (apply mulOk'; (focus (walk_at "bdd"; done)); (focus (walk_at "bdd"; done)); rfl))
local macro_rules | `(tactic| walk_at "bw") => `(tactic| (apply bdW; (focus (walk_at "bdd"; done)); rfl))
/-! ### numbers, elements -/
inductive Nm where
  | fr (t b : Int) | rt (a b c s : Int)
def IN : Nm → PV
  | .fr t b => I2 (t, b)
  | .rt a b c s => .tup [.int a, .int b, .int c, .int s]
def elF : Nm → El
  | .fr t b => plainF (t, b)
  | .rt a b c s => ⟨rateF (-b) (2 * a), rateF s (2 * a), b * b - 4 * a * c⟩
def BN (k : Nat) : Nm → Prop
  | .fr t b => Bd k t ∧ Bd k b
  | .rt a b c s => Bd k a ∧ Bd k b ∧ Bd k c ∧ Bd k s
theorem e17f {W n : Nat} {t b : Int} (h : Hh) : evN (PW W) (n + 2) true 17 [I2 (t, b)] h = .ok (IE (plainF (t, b))) h := by
  refine callP (d := d17) (h1 := []) rfl rfl rfl rfl rfl (by unfold IE; rfl) (q_go ?_)
  dsimp only [d17, List.map, List.replicate, Nat.sub, List.cons_append, List.nil_append]
  exists e9
theorem e17r {W n : Nat} {a b c s : Int} (ha : Bd 1000 a) (hb : Bd 1000 b) (hc : Bd 1000 c) (hs : Bd 1000 s) (a0 : a ≠ 0) (hW : 2 ^ 8000 ≤ W) (h : Hh) : evN (PW W) (n + 3) true 17 [IN (.rt a b c s)] h = .ok (IE (elF (.rt a b c s))) h := by
  refine callP (d := d17) (h1 := []) rfl rfl rfl rfl rfl (by unfold IE; rfl) (q_go ?_)
  dsimp only [d17, List.map, List.replicate, Nat.sub, List.cons_append, List.nil_append]
  have n2 : 2 * a ≠ 0 := by omega
  have b2 : (2 * a).natAbs < 2 ^ 8000 := by walk_at "bw"
  unfold IE elF IN
  have t1 := fun h => e4 (W := W) (n := n) (t := -b) n2 b2 hW h
  have t2 := fun h => e4 (W := W) (n := n) (t := s) n2 b2 hW h
  exists t1, t2
/-- (p, q, r, d) -/
structure Lf where
  p : Int
  q : Int
  r : Int
  d : Int
def IL (l : Lf) : PV := .tup [.int l.p, .int l.q, .int l.r, .int l.d]
def lfF : Nm → Lf
  | .fr t b => ⟨t, 0, b, 0⟩
  | .rt a b c s => ⟨-b, s, 2 * a, b * b - 4 * a * c⟩
theorem e37 {W n : Nat} {x : Nm} (hx : BN 1000 x) (h : Hh) : evN (PW W) (n + 1) true 37 [IN x] h = .ok (IL (lfF x)) h := by
  cases x with
  | fr t b =>
    refine callP (d := d37) (h1 := []) rfl rfl rfl rfl rfl rfl (q_go ?_)
    dsimp only [d37, List.map, List.replicate, Nat.sub, List.cons_append, List.nil_append]
    unfold IN IL lfF
    walk_at "evs"
  | rt a b c s =>
    obtain ⟨h1, h2, h3, h4⟩ := hx
    refine callP (d := d37) (h1 := []) rfl rfl rfl rfl rfl rfl (q_go ?_)
    dsimp only [d37, List.map, List.replicate, Nat.sub, List.cons_append, List.nil_append]
    unfold IN IL lfF
    walk_at "evs"
def minusF (l : Lf) : Lf := ⟨-l.p, -l.q, l.r, l.d⟩
theorem e43 {W n : Nat} {l : Lf} (h : Hh) : evN (PW W) (n + 1) true 43 [IL l] h = .ok (IL (minusF l)) h := by
  refine callP (d := d43) (h1 := []) rfl rfl rfl rfl rfl rfl (q_go ?_)
  dsimp only [d43, List.map, List.replicate, Nat.sub, List.cons_append, List.nil_append]
  unfold IL minusF
  walk_at "evs"
/-! ### the sign of f + s√r + t√o -/
def s4 (f s t r o : Int) : Int :=
  if 0 < o then (if sgu t 0 r = 0 ∨ sgu f s r = sgu t 0 r then sgu f s r else if sgu f s r = 0 then sgu t 0 r else
    sgu f s r * sgu (f * f + s * s * r - (t * t + 0 * 0 * r) * o) (2 * (f * s - t * 0 * o)) r) else sgu f s r
theorem e18 {W n : Nat} {f s t r o : Int} (hf : Bd 9000 f) (hs : Bd 9000 s) (ht : Bd 9000 t) (hr : Bd 9000 r) (ho : Bd 9000 o) (h : Hh) : evN (PW W) (n + 3) true 18 [.int f, .int s, .int t, .int 0, .int r, .int o] h = .ok (.int (s4 f s t r o)) h := by
  refine callP (d := d18) (h1 := []) rfl rfl rfl rfl rfl rfl (q_go ?_)
  dsimp only [d18, List.map, List.replicate, Nat.sub, List.cons_append, List.nil_append]
  have t1 := fun h => e13 (W := W) (n := n) (x := f) (y := s) (d := r) (by walk_at "bw") (by walk_at "bw") (by walk_at "bw") h
  have t2 := fun h => e13 (W := W) (n := n) (x := t) (y := 0) (d := r) (by walk_at "bw") (by walk_at "bw") (by walk_at "bw") h
  have t3 := fun h => e13 (W := W) (n := n) (x := f * f + s * s * r - (t * t + 0 * 0 * r) * o) (y := 2 * (f * s - t * 0 * o)) (d := r) (by walk_at "bw") (by walk_at "bw") (by walk_at "bw") h
  have m := sMul (sgu_le f s r) (sgu_le (f * f + s * s * r - (t * t + 0 * 0 * r) * o) (2 * (f * s - t * 0 * o)) r)
  unfold s4
  by_cases h0 : 0 < o
  · rw [if_pos h0]
    by_cases h1 : sgu t 0 r = 0
    · rw [if_pos (.inl h1)]
      exists t1, t2
    · by_cases h2 : sgu f s r = sgu t 0 r
      · rw [if_pos (.inr h2)]
        exists t1, t2
      · rw [if_neg (by omega)]
        by_cases h3 : sgu f s r = 0
        · have h2' : ¬ (0 = sgu t 0 r) := by omega
          rw [if_pos h3]
          exists t1, t2
        · rw [if_neg h3]
          exists t1, t2, t3
  · rw [if_neg h0]
    exists t1
/-! ### fractions in lowest terms -/
theorem gg_ne {t b : Int} (hb : b ≠ 0) : gg t b ≠ 0 := fun z => hb (Int.gcd_eq_zero_iff.mp (by rw [← gg_abs (t := t) (b := b), z]; rfl)).2
theorem gg_dvd (t b : Int) : gg t b ∣ t ∧ gg t b ∣ b := by
  unfold gg
  split
  · exact ⟨Int.neg_dvd.mpr (Int.gcd_dvd_left ..), Int.neg_dvd.mpr (Int.gcd_dvd_right ..)⟩
  · exact ⟨Int.gcd_dvd_left .., Int.gcd_dvd_right ..⟩
theorem rate_eq {t b : Int} (hb : b ≠ 0) : t = gg t b * (rateF t b).1 ∧ b = gg t b * (rateF t b).2 := by
  obtain ⟨d1, d2⟩ := gg_dvd t b
  have n := gg_ne (t := t) hb
  unfold rateF
  constructor
  · show t = gg t b * t.fdiv (gg t b)
    rw [Int.fdiv_eq_ediv_of_dvd d1, Int.mul_ediv_cancel' d1]
  · show b = gg t b * b.fdiv (gg t b)
    rw [Int.fdiv_eq_ediv_of_dvd d2, Int.mul_ediv_cancel' d2]
theorem rate_pos {t b : Int} (hb : b ≠ 0) : 0 < (rateF t b).2 := by
  obtain ⟨_, e⟩ := rate_eq (t := t) hb
  have g : (0 < b → 0 < gg t b) ∧ (b < 0 → gg t b < 0) := by
    have n := gg_ne (t := t) hb
    unfold gg at n ⊢
    constructor
    · intro h
      rw [if_neg (by omega)] at n ⊢
      omega
    · intro h
      rw [if_pos h] at n ⊢
      omega
  rcases Int.lt_or_gt_of_ne hb with h | h
  · have g2 := g.2 h
    rcases Int.lt_trichotomy (rateF t b).2 0 with z | z | z
    · have := Int.mul_pos_of_neg_of_neg g2 z
      omega
    · rw [z, Int.mul_zero] at e
      omega
    · exact z
  · have g2 := g.1 h
    rcases Int.lt_trichotomy (rateF t b).2 0 with z | z | z
    · have := Int.mul_neg_of_pos_of_neg g2 z
      omega
    · rw [z, Int.mul_zero] at e
      omega
    · exact z
theorem abs_le_mul {g x : Int} (hg : g ≠ 0) : x.natAbs ≤ (g * x).natAbs := by
  rw [Int.natAbs_mul]
  have : 1 ≤ g.natAbs := by omega
  calc x.natAbs = 1 * x.natAbs := (Nat.one_mul _).symm
    _ ≤ g.natAbs * x.natAbs := Nat.mul_le_mul_right _ this
theorem rate_bd {t b : Int} {k : Nat} (hb : b ≠ 0) (ht : Bd k t) (hk : Bd k b) : Bd2 k (rateF t b) := by
  obtain ⟨e1, e2⟩ := rate_eq (t := t) hb
  have n := gg_ne (t := t) hb
  constructor
  · have := abs_le_mul (x := (rateF t b).1) n
    rw [← e1] at this
    exact Nat.lt_of_le_of_lt this ht
  · have := abs_le_mul (x := (rateF t b).2) n
    rw [← e2] at this
    exact Nat.lt_of_le_of_lt this hk
/-- across: t/b is rateF t b -/
theorem rate_cross {t b : Int} (hb : b ≠ 0) : t * (rateF t b).2 = b * (rateF t b).1 := by
  obtain ⟨e1, e2⟩ := rate_eq (t := t) hb
  calc t * (rateF t b).2 = gg t b * (rateF t b).1 * (rateF t b).2 := by rw [← e1]
    _ = gg t b * (rateF t b).2 * (rateF t b).1 := by grind
    _ = b * (rateF t b).1 := by rw [← e2]
/-! ### two elements compared -/
def sb (e g : El) : Int := s4 ((e.u.1 * g.u.2 - g.u.1 * e.u.2) * e.v.2 * g.v.2) (e.v.1 * e.u.2 * g.u.2 * g.v.2) (-g.v.1 * e.u.2 * g.u.2 * e.v.2) e.d g.d
def BE (k : Nat) (e : El) : Prop := Bd2 k e.u ∧ Bd2 k e.v ∧ Bd k e.d
theorem e19 {W n : Nat} {e g : El} (he : BE 2000 e) (hg : BE 2000 g) (h : Hh) : evN (PW W) (n + 4) true 19 [IE e, IE g] h = .ok (.int (sb e g)) h := by
  obtain ⟨⟨a1, a2⟩, ⟨a3, a4⟩, a5⟩ := he
  obtain ⟨⟨b1, b2⟩, ⟨b3, b4⟩, b5⟩ := hg
  refine callP (d := d19) (h1 := []) rfl rfl rfl rfl rfl rfl (q_go ?_)
  dsimp only [d19, List.map, List.replicate, Nat.sub, List.cons_append, List.nil_append]
  have t1 := fun h => e18 (W := W) (n := n) (f := (e.u.1 * g.u.2 - g.u.1 * e.u.2) * e.v.2 * g.v.2) (s := e.v.1 * e.u.2 * g.u.2 * g.v.2) (t := -g.v.1 * e.u.2 * g.u.2 * e.v.2) (r := e.d) (o := g.d) (by walk_at "bw") (by walk_at "bw") (by walk_at "bw") (by walk_at "bw") (by walk_at "bw") h
  unfold IE sb
  exists t1
/-! ### the greatest int at most an element -/
/-- e is k at least -/
def geE (e : El) (k : Int) : Prop := 0 ≤ sb e (plainF (k, 1))
theorem tw_loop {W n : Nat} {h : Hh} {e : El} (he : BE 2000 e) {x1 x2 x3 : Option PV} : ∀ (i m : Nat) (k : Int), i < m → (∀ j : Nat, j < i → geE e (k + 1 + j)) → ¬ geE e (k + 1 + i) → (∀ j : Nat, j ≤ i → Bd 1999 (k + j)) →
    whileL (ev (cf W (n + 4)) (.cmp .GtE (.call 19 (.cons (.var 0) (.cons (.call 9 (.cons (.tup (.cons (.bin .Add (.var 4) (.cst (.int 1))) (.cons (.cst (.int 1)) .nil))) .nil)) .nil))) (.cst (.int 0)))).t (ev (cf W (n + 4)) (.cons (.aug 4 .Add (.cst (.int 1))) .nil)).s m
      [some (IE e), x1, x2, x3, some (.int k)] h = .ok (.nx [some (IE e), x1, x2, x3, some (.int (k + i))]) h
  | i, 0, k, h0, _, _, _ => by omega
  | i, m + 1, k, h0, h1, h2, h3 => by
    have bk : Bd 1999 k := by have := h3 0 (by omega); simpa using this
    have bp : BE 2000 (plainF (k + 1, 1)) := ⟨⟨by walk_at "bw", by walk_at "bw"⟩, ⟨by show Bd 2000 0; walk_at "bw", by show Bd 2000 1; walk_at "bw"⟩, by show Bd 2000 0; walk_at "bw"⟩
    have t1 := fun h => e19 (W := W) (n := n) he bp h
    have t2 := fun h => e9 (W := W) (n := n + 3) (p := (k + 1, 1)) h
    cases i with
    | zero =>
      have hk : ¬ (0 ≤ sb e (plainF (k + 1, 1))) := by have := h2; simpa [geE] using this
      have : k + ((0 : Nat) : Int) = k := by omega
      rw [this]
      refine w_end' (kk := decide (0 ≤ sb e (plainF (k + 1, 1)))) (h2 := h) ?_ (decide_eq_false hk)
      exists t1, t2
    | succ i =>
      have hk : 0 ≤ sb e (plainF (k + 1, 1)) := by have := h1 0 (by omega); simpa [geE] using this
      have ih := tw_loop (W := W) (n := n) (h := h) he (x1 := x1) (x2 := x2) (x3 := x3) i m (k + 1) (by omega) (fun j hj => by
        have := h1 (j + 1) (by omega)
        rw [show k + 1 + 1 + (j : Int) = k + 1 + ((j + 1 : Nat) : Int) by omega]
        exact this) (by
        rw [show k + 1 + 1 + (i : Int) = k + 1 + ((i + 1 : Nat) : Int) by omega]
        exact h2) (fun j hj => by
        have := h3 (j + 1) (by omega)
        rw [show k + 1 + (j : Int) = k + ((j + 1 : Nat) : Int) by omega]
        exact this)
      rw [show k + ((i + 1 : Nat) : Int) = k + 1 + i by omega]
      refine w_nx' (kk := decide (0 ≤ sb e (plainF (k + 1, 1)))) (h2 := h) (h4 := h) (ρ1 := [some (IE e), x1, x2, x3, some (.int (k + 1))]) ?_ (decide_eq_true hk) ?_ ih
      · exists t1, t2
      · walk_at "evs"
def nearN (e : El) : Nat := isq ((e.v.1 * e.v.1 * e.d).toNat / (e.v.2 * e.v.2).toNat)
def lowF (e : El) : Int × Int := plusF e.u (if 0 < e.v.1 then (nearN e : Int) else -(nearN e : Int) - 1, 1)
def f0F (e : El) : Int := (lowF e).1.fdiv (lowF e).2 - 1
structure BE6 (e : El) : Prop where
  u : Bd2 600 e.u
  v : Bd2 600 e.v
  d : Bd 60 e.d
  u0 : 0 < e.u.2
  v0 : 0 < e.v.2
  d0 : 0 ≤ e.d
theorem BE6.be {e : El} (b : BE6 e) : BE 2000 e := ⟨⟨bdW b.u.1 rfl, bdW b.u.2 rfl⟩, ⟨bdW b.v.1 rfl, bdW b.v.2 rfl⟩, bdW b.d rfl⟩
theorem near_bd {e : El} (b : BE6 e) : Bd 1260 (nearN e : Int) := by
  have t : Bd 1260 (e.v.1 * e.v.1 * e.d) := bdMul (bdMul b.v.1 b.v.1) b.d
  show nearN e < 2 ^ 1260
  have h1 : nearN e ≤ (e.v.1 * e.v.1 * e.d).toNat := Nat.le_trans (isq_le _) (Nat.div_le_self _ _)
  have h2 : (e.v.1 * e.v.1 * e.d).toNat ≤ (e.v.1 * e.v.1 * e.d).natAbs := by omega
  exact Nat.lt_of_le_of_lt (Nat.le_trans h1 h2) t
theorem fdiv_bd {a b : Int} {k : Nat} (ha : Bd k a) (hb : 0 < b) : Bd (k + 1) (a.fdiv b) := by
  have h1 : a.fdiv b = a / b := Int.fdiv_eq_ediv_of_nonneg a (Int.le_of_lt hb)
  have h2 : (a / b).natAbs ≤ a.natAbs := Int.natAbs_ediv_le_natAbs a b
  rw [h1]
  exact bdW (Nat.lt_of_le_of_lt h2 ha) (Nat.ble_eq_true_of_le (Nat.le_succ k))
theorem low_bd {e : El} (b : BE6 e) : Bd2 1862 (lowF e) ∧ 0 < (lowF e).2 := by
  have nb := near_bd b
  have k1 : Bd 1261 (if 0 < e.v.1 then (nearN e : Int) else -(nearN e : Int) - 1) := by
    split
    · exact bdW nb rfl
    · exact bdW (bdSub (bdNeg nb) bd1) rfl
  have n0 : e.u.2 * 1 ≠ 0 := by have := b.u0; omega
  constructor
  · exact rate_bd n0 (bdW (bdAdd (bdMul b.u.1 bd1) (bdMul k1 b.u.2)) rfl) (bdW (bdMul b.u.2 bd1) rfl)
  · exact rate_pos n0
theorem f0_bd {e : El} (b : BE6 e) : Bd 1864 (f0F e) := by
  obtain ⟨⟨l1, _⟩, l2⟩ := low_bd b
  exact bdW (bdSub (fdiv_bd l1 l2) bd1) rfl
theorem divOk_bd {x : Int} (h0 : x ≠ 0) (hx : Bd 8000 x) : DivOk x := ⟨h0, Nat.lt_of_lt_of_le ((Nat.log2_lt (by omega)).mpr hx) (by decide)⟩
theorem e23z {W n : Nat} {e : El} (b : BE6 e) (hv : e.v.1 = 0) (h : Hh) : evN (PW W) (n + 1) true 23 [IE e] h = .ok (.int (e.u.1.fdiv e.u.2)) h := by
  refine callP (d := d23) (h1 := []) rfl rfl rfl rfl rfl rfl (q_go ?_)
  dsimp only [d23, List.map, List.replicate, Nat.sub, List.cons_append, List.nil_append]
  have dk : DivOk e.u.2 := divOk_bd (by have := b.u0; omega) (bdW b.u.2 rfl)
  unfold IE
  walk_at "evs"
theorem e23 {W n : Nat} {e : El} (b : BE6 e) (hv : e.v.1 ≠ 0) (hW : 2 ^ 8000 ≤ W) {i : Nat} (hi : i < 1000) (h1 : ∀ j : Nat, j < i → geE e (f0F e + 1 + j)) (h2 : ¬ geE e (f0F e + 1 + i)) (h : Hh) : evN (PW W) (n + 5) true 23 [IE e] h = .ok (.int (f0F e + i)) h := by
  refine callP (d := d23) (h1 := []) rfl rfl rfl rfl rfl rfl (q_go ?_)
  dsimp only [d23, List.map, List.replicate, Nat.sub, List.cons_append, List.nil_append]
  have vv : 0 < e.v.2 * e.v.2 := Int.mul_pos b.v0 b.v0
  have tp : 0 ≤ e.v.1 * e.v.1 * e.d := Int.mul_nonneg (by rcases Int.le_total 0 e.v.1 with z | z; exact Int.mul_nonneg z z; exact Int.mul_nonneg_of_nonpos_of_nonpos z z) b.d0
  have bvv : Bd 8000 (e.v.2 * e.v.2) := bdW (bdMul b.v.2 b.v.2) rfl
  have dk : DivOk (e.v.2 * e.v.2) := divOk_bd (by omega) bvv
  have m1 : EV.MulOk e.v.1 e.v.1 := mulOk' b.v.1 b.v.1 rfl
  have m2 : EV.MulOk (e.v.1 * e.v.1) e.d := mulOk' (bdMul b.v.1 b.v.1) b.d rfl
  have m3 : EV.MulOk e.v.2 e.v.2 := mulOk' b.v.2 b.v.2 rfl
  have eN : (e.v.1 * e.v.1 * e.d).fdiv (e.v.2 * e.v.2) = (((e.v.1 * e.v.1 * e.d).toNat / (e.v.2 * e.v.2).toNat : Nat) : Int) := by
    have := Int.ofNat_fdiv (e.v.1 * e.v.1 * e.d).toNat (e.v.2 * e.v.2).toNat
    rw [Int.toNat_of_nonneg tp, Int.toNat_of_nonneg (Int.le_of_lt vv)] at this
    exact this.symm
  have bq : (e.v.1 * e.v.1 * e.d).toNat / (e.v.2 * e.v.2).toNat < 2 ^ 8000 := by
    have t : Bd 1260 (e.v.1 * e.v.1 * e.d) := bdMul (bdMul b.v.1 b.v.1) b.d
    have h2 : (e.v.1 * e.v.1 * e.d).toNat ≤ (e.v.1 * e.v.1 * e.d).natAbs := by omega
    exact Nat.lt_of_le_of_lt (Nat.le_trans (Nat.div_le_self _ _) h2) (Nat.lt_trans t (Nat.pow_lt_pow_right (by decide) (by decide)))
  have t2 := fun h => e2 (W := W) (n := n + 3) bq hW h
  rw [← eN] at t2
  have nb := near_bd b
  have k1 : Bd 1261 (if 0 < e.v.1 then (nearN e : Int) else -(nearN e : Int) - 1) := by
    split
    · exact bdW nb rfl
    · exact bdW (bdSub (bdNeg nb) bd1) rfl
  have t7 := fun h => e7 (W := W) (n := n + 1) (p := e.u) (q := (if 0 < e.v.1 then (nearN e : Int) else -(nearN e : Int) - 1, 1)) ⟨bdW b.u.1 rfl, bdW b.u.2 rfl⟩ ⟨bdW k1 rfl, one_bd⟩ (by have := b.u0; omega) (show (1 : Int) ≠ 0 by decide) hW h
  obtain ⟨⟨l1, l3⟩, l2⟩ := low_bd b
  have dl : DivOk (lowF e).2 := divOk_bd (by omega) (bdW l3 rfl)
  have fb := f0_bd b
  have hWp : i < W := Nat.lt_of_lt_of_le hi (Nat.le_trans (Nat.le_of_ble_eq_true (by decide +kernel : Nat.ble 1000 (2 ^ 8000) = true)) hW)
  have lp := tw_loop (W := W) (n := n) (h := []) b.be (x1 := some (.int (e.v.1 * e.v.1 * e.d))) (x2 := some (.int (nearN e))) (x3 := some (I2 (lowF e))) i W (f0F e) hWp h1 h2 (fun j hj => bdW (bdAdd fb (show Bd 11 (j : Int) by show j < 2 ^ 11; omega)) rfl)
  have lpR : SQ (cf W (n + 4)) [.cons (.whl (.cmp .GtE (.call 19 (.cons (.var 0) (.cons (.call 9 (.cons (.tup (.cons (.bin .Add (.var 4) (.cst (.int 1))) (.cons (.cst (.int 1)) .nil))) .nil)) .nil))) (.cst (.int 0))) (.cons (.aug 4 .Add (.cst (.int 1))) .nil)) (.cons (.ret (.var 4)) .nil)]
      [some (IE e), some (.int (e.v.1 * e.v.1 * e.d)), some (.int (nearN e)), some (I2 (lowF e)), some (.int (f0F e))] [] = .ok (.rt (.int (f0F e + i))) [] := by
    refine q_whl lp ?_
    walk_at "evs"
  refine q_iffF' (kk := decide (e.v.1 = 0)) (h2 := []) ?_ (decide_eq_false hv) ?_
  · walk_at "evs"
  walk_at "ev0"
  refine q_asg (v := .int (e.v.1 * e.v.1 * e.d)) (h2 := []) (h4 := []) (ρ1 := [some (IE e), some (.int (e.v.1 * e.v.1 * e.d)), none, none, none]) ?_ g_tn ?_
  · walk_at "evs"
  refine q_asg (v := .int (nearN e)) (h2 := []) (h4 := []) (ρ1 := [some (IE e), some (.int (e.v.1 * e.v.1 * e.d)), some (.int (nearN e)), none, none]) ?_ g_tn ?_
  · exists t2
  refine q_asg (v := I2 (lowF e)) (h2 := []) (h4 := []) (ρ1 := [some (IE e), some (.int (e.v.1 * e.v.1 * e.d)), some (.int (nearN e)), some (I2 (lowF e)), none]) ?_ g_tn ?_
  · unfold lowF
    by_cases h0 : 0 < e.v.1
    · rw [if_pos h0] at t7 ⊢
      exists t7
    · rw [if_neg h0] at t7 ⊢
      exists t7
  refine q_asg (v := .int (f0F e)) (h2 := []) (h4 := []) (ρ1 := [some (IE e), some (.int (e.v.1 * e.v.1 * e.d)), some (.int (nearN e)), some (I2 (lowF e)), some (.int (f0F e))]) ?_ g_tn lpR
  unfold f0F
  walk_at "evs"
/-! ### the law's own -/
/-- the greatest int at most y√d -/
def flr (y d : Int) : Int := if 0 ≤ y then (isq (y * y * d).toNat : Int) else -(isq (y * y * d).toNat : Int) - b2 (!decide ((isq (y * y * d).toNat : Int) * (isq (y * y * d).toNat : Int) = y * y * d))
def floorF (l : Lf) (f : Int) : Int := (l.p * f + flr (l.q * f) l.d).fdiv l.r
structure BL (k : Nat) (l : Lf) : Prop where
  p : Bd k l.p
  q : Bd k l.q
  r : Bd k l.r
  d : Bd k l.d
  r0 : 0 < l.r
  d0 : 0 ≤ l.d
theorem sq_nn (y : Int) : 0 ≤ y * y := by
  rcases Int.le_total 0 y with z | z
  · exact Int.mul_nonneg z z
  · exact Int.mul_nonneg_of_nonpos_of_nonpos z z
theorem toNat_bd {x : Int} {k : Nat} (h : Bd k x) : x.toNat < 2 ^ k := by
  have : x.toNat ≤ x.natAbs := by omega
  exact Nat.lt_of_le_of_lt this h
theorem e36i {W n : Nat} {x : Int} {k : Nat} (h0 : 0 ≤ x) (hx : Bd k x) (hk : k ≤ 7999) (hW : 2 ^ 8000 ≤ W) (h : Hh) : evN (PW W) (n + 1) true 36 [.int x] h = .ok (.int (isq x.toNat : Nat)) h := by
  have b := toNat_bd hx
  have b2 : x.toNat < 2 ^ 7999 := Nat.lt_of_lt_of_le b (Nat.pow_le_pow_right (by decide) hk)
  have := e36 (W := W) (n := n) (N := x.toNat) (Nat.lt_trans b2 (Nat.pow_lt_pow_right (by decide) (by decide))) (Nat.le_trans (Nat.succ_le_of_lt (Nat.lt_trans b2 (Nat.pow_lt_pow_right (by decide) (by decide)))) hW) h
  rw [Int.toNat_of_nonneg h0] at this
  exact this
theorem isq_bd {x : Int} {k : Nat} (h0 : 0 ≤ x) (hx : Bd k x) : Bd k (isq x.toNat : Int) := by
  show isq x.toNat < 2 ^ k
  exact Nat.lt_of_le_of_lt (isq_le _) (toNat_bd hx)
theorem e46 {W n : Nat} {l : Lf} {f : Int} (b : BL 60 l) (hf : Bd 540 f) (hW : 2 ^ 8000 ≤ W) (h : Hh) : evN (PW W) (n + 2) true 46 [IL l, .int f] h = .ok (.int (floorF l f)) h := by
  refine callP (d := d46) (h1 := []) rfl rfl rfl rfl rfl rfl (q_go ?_)
  dsimp only [d46, List.map, List.replicate, Nat.sub, List.cons_append, List.nil_append]
  obtain ⟨h1, h2, h3, h4, r0, d0⟩ := b
  have w0 : 0 ≤ l.q * f * (l.q * f) * l.d := Int.mul_nonneg (sq_nn _) d0
  have wb : Bd 1260 (l.q * f * (l.q * f) * l.d) := by walk_at "bw"
  have t36 := fun h => e36i (W := W) (n := n) w0 wb (by decide) hW h
  have nb := isq_bd w0 wb
  have dk : DivOk l.r := divOk_bd (by omega) (bdW h3 rfl)
  have rn : ¬ l.r < 0 := by omega
  unfold IL floorF flr
  by_cases h0 : 0 ≤ l.q * f
  · rw [if_pos h0]
    exists t36
  · rw [if_neg h0]
    exists t36
/-- the sign of x, by two truths -/
abbrev sgB (x : Int) : Int := b2 (decide (0 < x)) - b2 (decide (x < 0))
theorem sgB_eq (x : Int) : sgB x = sgi x := by
  unfold sgB sgi b2
  by_cases h0 : x = 0
  · subst h0; decide
  · by_cases h1 : 0 < x
    · have : ¬ x < 0 := by omega
      simp [h0, h1, this]
    · have : x < 0 := by omega
      simp [h0, h1, this]
def signF (l : Lf) : Int :=
  let s := sgB (l.q * 1) * b2 (decide (0 < l.d))
  if sgB (l.p * 1) = s ∨ s = 0 ∨ sgB (l.p * 1) = 0 then (if s = 0 then sgB (l.p * 1) else s) else sgB (l.p * 1) * sgB (l.p * 1 * (l.p * 1) - l.q * 1 * (l.q * 1) * l.d)
theorem sgB_le (x : Int) : (sgB x).natAbs ≤ 1 := by rw [sgB_eq]; exact sgi_le x
theorem b2_le (k : Bool) : (b2 k).natAbs ≤ 1 := by cases k <;> decide
theorem e44 {W n : Nat} {l : Lf} (b : BL 3000 l) (h : Hh) : evN (PW W) (n + 1) true 44 [IL l] h = .ok (.int (signF l)) h := by
  refine callP (d := d44) (h1 := []) rfl rfl rfl rfl rfl rfl (q_go ?_)
  dsimp only [d44, List.map, List.replicate, Nat.sub, List.cons_append, List.nil_append]
  obtain ⟨h1, h2, h3, h4, r0, d0⟩ := b
  have r0' : 0 < l.r := r0
  have m1 := sMul (sgB_le (l.q * 1)) (b2_le (decide (0 < l.d)))
  have m2 := sMul (sgB_le (l.p * 1)) (sgB_le (l.p * 1 * (l.p * 1) - l.q * 1 * (l.q * 1) * l.d))
  unfold IL signF
  dsimp only
  by_cases c1 : sgB (l.q * 1) * b2 (decide (0 < l.d)) = 0
  · rw [if_pos (.inr (.inl c1)), if_pos c1]
    walk_at "evs"
  · by_cases c2 : sgB (l.p * 1) = sgB (l.q * 1) * b2 (decide (0 < l.d))
    · rw [if_pos (.inl c2), if_neg c1]
      walk_at "evs"
    · by_cases c3 : sgB (l.p * 1) = 0
      · rw [if_pos (.inr (.inr c3)), if_neg c1]
        walk_at "evs"
      · rw [if_neg (by omega)]
        walk_at "evs"
def brF (l : Lf) (d : Int) : Lf := if l.d = 0 ∨ l.d = d then ⟨l.p, l.q, l.r, d⟩ else ⟨l.p * d, l.q * (isq (l.d * d).toNat : Int), l.r * d, d⟩
theorem e39 {W n : Nat} {l : Lf} {d : Int} (b : BL 500 l) (hd : Bd 500 d) (d0 : 0 ≤ d) (hW : 2 ^ 8000 ≤ W) (h : Hh) : evN (PW W) (n + 2) true 39 [IL l, .int d] h = .ok (IL (brF l d)) h := by
  refine callP (d := d39) (h1 := []) rfl rfl rfl rfl rfl rfl (q_go ?_)
  dsimp only [d39, List.map, List.replicate, Nat.sub, List.cons_append, List.nil_append]
  obtain ⟨h1, h2, h3, h4, r0, ld0⟩ := b
  have w0 : 0 ≤ l.d * d := Int.mul_nonneg ld0 d0
  have wb : Bd 1000 (l.d * d) := by walk_at "bw"
  have t36 := fun h => e36i (W := W) (n := n) w0 wb (by decide) hW h
  have nb := isq_bd w0 wb
  unfold IL brF
  by_cases c : l.d = 0 ∨ l.d = d
  · rw [if_pos c]
    refine q_iffT' (kk := (0 == l.d || (d == l.d || false))) (h2 := []) ?_ (by rcases c with z | z <;> simp [z]) ?_
    · walk_at "evs"
    · walk_at "evs"
  · rw [if_neg c]
    refine q_iffF' (kk := (0 == l.d || (d == l.d || false))) (h2 := []) ?_ (by
      have c1 : ¬ 0 = l.d := fun z => c (.inl z.symm)
      have c2 : ¬ d = l.d := fun z => c (.inr z.symm)
      simp [c1, c2]) ?_
    · walk_at "evs"
    · exists t36
theorem br_bd {l : Lf} {d : Int} (b : BL 500 l) (hd : Bd 500 d) (d0 : 0 < d) : BL 1500 (brF l d) := by
  obtain ⟨h1, h2, h3, h4, r0, ld0⟩ := b
  have w0 : 0 ≤ l.d * d := Int.mul_nonneg ld0 (Int.le_of_lt d0)
  have wb : Bd 1000 (l.d * d) := by walk_at "bw"
  have nb := isq_bd w0 wb
  unfold brF
  split
  · exact ⟨by walk_at "bw", by walk_at "bw", by walk_at "bw", by walk_at "bw", r0, Int.le_of_lt d0⟩
  · exact ⟨by walk_at "bw", by walk_at "bw", by walk_at "bw", by walk_at "bw", Int.mul_pos r0 d0, Int.le_of_lt d0⟩
theorem br_bd0 {l : Lf} (b : BL 500 l) (hd : l.d = 0) : BL 1500 (brF l 0) := by
  obtain ⟨h1, h2, h3, h4, r0, ld0⟩ := b
  unfold brF
  rw [if_pos (.inl hd)]
  exact ⟨by walk_at "bw", by walk_at "bw", by walk_at "bw", by walk_at "bw", r0, Int.le_refl _⟩
def dF (l g : Lf) : Int := if l.d ≠ 0 then l.d else g.d
theorem e40 {W n : Nat} {l g : Lf} (b : BL 500 l) (c : BL 500 g) (hW : 2 ^ 8000 ≤ W) (h : Hh) : evN (PW W) (n + 3) true 40 [IL l, IL g] h = .ok (.tup [IL (brF l (dF l g)), IL (brF g (dF l g))]) h := by
  refine callP (d := d40) (h1 := []) rfl rfl rfl rfl rfl rfl (q_go ?_)
  dsimp only [d40, List.map, List.replicate, Nat.sub, List.cons_append, List.nil_append]
  have bd : Bd 500 (dF l g) := by unfold dF; split; exact b.d; exact c.d
  have d0 : 0 ≤ dF l g := by unfold dF; split; exact b.d0; exact c.d0
  have t1 := fun h => e39 (W := W) (n := n) b bd d0 hW h
  have t2 := fun h => e39 (W := W) (n := n) c bd d0 hW h
  unfold dF at t1 t2 ⊢
  by_cases h0 : l.d = 0
  · rw [if_neg (by simp [h0])] at t1 t2 ⊢
    exists t1, t2
  · rw [if_pos h0] at t1 t2 ⊢
    exists t1, t2
def gcd3 (l : Lf) : Int := Int.gcd (Int.gcd l.p l.q : Int) l.r
def tidyF (l : Lf) : Lf := ⟨l.p.fdiv (gcd3 l * 1), l.q.fdiv (gcd3 l * 1), l.r.fdiv (gcd3 l * 1), l.d⟩
theorem gcd3_le {l : Lf} (hr : l.r ≠ 0) : Int.gcd (Int.gcd l.p l.q : Int) l.r ≤ l.r.natAbs := gcd_le hr
theorem e41 {W n : Nat} {l : Lf} (b : BL 4000 l) (hW : 2 ^ 8000 ≤ W) (h : Hh) : evN (PW W) (n + 2) true 41 [IL l] h = .ok (IL (tidyF l)) h := by
  refine callP (d := d41) (h1 := []) rfl rfl rfl rfl rfl rfl (q_go ?_)
  dsimp only [d41, List.map, List.replicate, Nat.sub, List.cons_append, List.nil_append]
  obtain ⟨h1, h2, h3, h4, r0, d0⟩ := b
  have hw : ∀ {x : Int}, Bd 4000 x → x.natAbs < W := fun hx => Nat.lt_of_lt_of_le hx (Nat.le_trans (Nat.pow_le_pow_right (by decide) (by decide)) hW)
  have w1 := hw h2
  have w2 := hw h3
  have gb : Bd 4000 (gcd3 l) := Nat.lt_of_le_of_lt (gcd3_le (by omega)) h3
  have g0 : gcd3 l ≠ 0 := by
    unfold gcd3
    intro z
    have : Int.gcd (Int.gcd l.p l.q : Int) l.r = 0 := by omega
    have := (Int.gcd_eq_zero_iff.mp this).2
    omega
  have dk : DivOk (gcd3 l * 1) := divOk_bd (by omega) (by walk_at "bw")
  have m : EV.MulOk (gcd3 l) 1 := by walk_at "mk"
  have t1 := fun h => e34 (W := W) (n := n) (x := l.p) (y := l.q) w1 h
  have t2 := fun h => e34 (W := W) (n := n) (x := (Int.gcd l.p l.q : Int)) (y := l.r) w2 h
  have r0' : 0 < l.r := r0
  unfold IL tidyF
  unfold gcd3 at dk m ⊢
  exists t1, t2
def sumF (l g : Lf) : Lf :=
  let m := brF l (dF l g)
  let i := brF g (dF l g)
  tidyF ⟨m.p * i.r + i.p * m.r, m.q * i.r + i.q * m.r, m.r * i.r, m.d⟩
theorem e42 {W n : Nat} {l g : Lf} (b : BL 500 l) (c : BL 500 g) (hW : 2 ^ 8000 ≤ W) (h : Hh) : evN (PW W) (n + 4) true 42 [IL l, IL g] h = .ok (IL (sumF l g)) h := by
  refine callP (d := d42) (h1 := []) rfl rfl rfl rfl rfl rfl (q_go ?_)
  dsimp only [d42, List.map, List.replicate, Nat.sub, List.cons_append, List.nil_append]
  have t0 := fun h => e40 (W := W) (n := n) b c hW h
  have key : BL 1500 (brF l (dF l g)) ∧ BL 1500 (brF g (dF l g)) := by
    have d0 : 0 ≤ dF l g := by unfold dF; split; exact b.d0; exact c.d0
    have bd : Bd 500 (dF l g) := by unfold dF; split; exact b.d; exact c.d
    by_cases z : dF l g = 0
    · have : l.d = 0 ∧ g.d = 0 := by
        unfold dF at z
        split at z
        · contradiction
        · exact ⟨by omega, z⟩
      rw [z]
      exact ⟨br_bd0 b this.1, br_bd0 c this.2⟩
    · exact ⟨br_bd b bd (by omega), br_bd c bd (by omega)⟩
  obtain ⟨⟨a1, a2, a3, a4, a5, a6⟩, ⟨c1, c2, c3, c4, c5, c6⟩⟩ := key
  unfold sumF
  dsimp only
  generalize brF l (dF l g) = m at t0 a1 a2 a3 a4 a5 a6 ⊢
  generalize brF g (dF l g) = i at t0 c1 c2 c3 c4 c5 c6 ⊢
  have t1 := fun h => e41 (W := W) (n := n + 1) (l := ⟨m.p * i.r + i.p * m.r, m.q * i.r + i.q * m.r, m.r * i.r, m.d⟩) ⟨by show Bd 4000 (m.p * i.r + i.p * m.r); walk_at "bw", by show Bd 4000 (m.q * i.r + i.q * m.r); walk_at "bw", by show Bd 4000 (m.r * i.r); walk_at "bw", by show Bd 4000 m.d; walk_at "bw", Int.mul_pos a5 c5, a6⟩ hW h
  unfold IL at t0 t1 ⊢
  exists t0, t1
def fieldB (l g : Lf) : Bool := decide (l.d = 0) || (decide (g.d = 0) || (decide (l.q = 0) || decide (g.q = 0)))
def sqB (x : Int) : Bool := decide ((isq x.toNat : Int) ^ (2 : Int).toNat = x)
theorem e45 {W n : Nat} {l g : Lf} (b : BL 500 l) (c : BL 500 g) (hW : 2 ^ 8000 ≤ W) (h : Hh) : evN (PW W) (n + 2) true 45 [IL l, IL g] h = .ok (.bl (if fieldB l g = true then true else sqB (l.d * g.d))) h := by
  refine callP (d := d45) (h1 := []) rfl rfl rfl rfl rfl rfl (q_go ?_)
  dsimp only [d45, List.map, List.replicate, Nat.sub, List.cons_append, List.nil_append]
  obtain ⟨h1, h2, h3, h4, r0, ld0⟩ := b
  obtain ⟨c1, c2, c3, c4, c5, c6⟩ := c
  have w0 : 0 ≤ l.d * g.d := Int.mul_nonneg ld0 c6
  have wb : Bd 1000 (l.d * g.d) := by walk_at "bw"
  have t36 := fun h => e36i (W := W) (n := n) w0 wb (by decide) hW h
  have nb := isq_bd w0 wb
  have pk : PowOk ((isq (l.d * g.d).toNat : Nat) : Int) 2 := by
    refine ⟨by decide, ?_⟩
    have : ((isq (l.d * g.d).toNat : Nat) : Int).natAbs.log2 ≤ 1000 := by
      by_cases z : ((isq (l.d * g.d).toNat : Nat) : Int).natAbs = 0
      · rw [z]; decide
      · exact Nat.le_of_lt ((Nat.log2_lt z).mpr nb)
    show (_ + 1) * 2 ≤ 134217728
    omega
  unfold IL
  by_cases hc : fieldB l g = true
  · rw [if_pos hc]
    refine q_iffT' (kk := fieldB l g) (h2 := []) ?_ hc ?_
    · unfold fieldB
      walk_at "evs"
    · walk_at "evs"
  · rw [if_neg hc]
    refine q_iffF' (kk := fieldB l g) (h2 := []) ?_ (by simpa using hc) ?_
    · unfold fieldB
      walk_at "evs"
    · unfold sqB
      exists t36
      all_goals exact pk
theorem BL.w {k m : Nat} {l : Lf} (b : BL k l) (h : Nat.ble k m = true) : BL m l := ⟨bdW b.p h, bdW b.q h, bdW b.r h, bdW b.d h, b.r0, b.d0⟩
theorem BL.neg {k : Nat} {l : Lf} (b : BL k l) : BL k (minusF l) := ⟨bdNeg b.p, bdNeg b.q, b.r, b.d, b.r0, b.d0⟩
/-- one field -/
def sameB (l g : Lf) : Bool := if fieldB l g = true then true else sqB (l.d * g.d)
theorem sum_bd {l g : Lf} (b : BL 60 l) (c : BL 60 g) : BL 3000 (sumF l g) := by
  have b' : BL 500 l := b.w rfl
  have c' : BL 500 g := c.w rfl
  have key : BL 240 (brF l (dF l g)) ∧ BL 240 (brF g (dF l g)) := by
    have d0 : 0 ≤ dF l g := by unfold dF; split; exact b.d0; exact c.d0
    have bd : Bd 60 (dF l g) := by unfold dF; split; exact b.d; exact c.d
    have one : ∀ {l : Lf} {d : Int}, BL 60 l → Bd 60 d → 0 ≤ d → (l.d = 0 ∨ 0 < d) → BL 240 (brF l d) := fun {l d} b hd d0 hh => by
      obtain ⟨h1, h2, h3, h4, r0, ld0⟩ := b
      have w0 : 0 ≤ l.d * d := Int.mul_nonneg ld0 d0
      have wb : Bd 120 (l.d * d) := by walk_at "bw"
      have nb := isq_bd w0 wb
      unfold brF
      split
      · exact ⟨by walk_at "bw", by walk_at "bw", by walk_at "bw", by walk_at "bw", r0, d0⟩
      · rename_i hn
        have : 0 < d := by
          rcases hh with z | z
          · exact absurd (.inl z) hn
          · exact z
        exact ⟨by walk_at "bw", by walk_at "bw", by walk_at "bw", by walk_at "bw", Int.mul_pos r0 this, d0⟩
    refine ⟨one b bd d0 ?_, one c bd d0 ?_⟩
    · unfold dF
      split
      · exact .inr (by have := b.d0; omega)
      · exact .inl (by omega)
    · by_cases z : dF l g = 0
      · refine .inl ?_
        unfold dF at z
        split at z
        · contradiction
        · exact z
      · exact .inr (by omega)
  obtain ⟨⟨a1, a2, a3, a4, a5, a6⟩, ⟨c1, c2, c3, c4, c5, c6⟩⟩ := key
  unfold sumF
  dsimp only
  generalize brF l (dF l g) = m at a1 a2 a3 a4 a5 a6 ⊢
  generalize brF g (dF l g) = i at c1 c2 c3 c4 c5 c6 ⊢
  have rp : 0 < m.r * i.r := Int.mul_pos a5 c5
  generalize hL : (⟨m.p * i.r + i.p * m.r, m.q * i.r + i.q * m.r, m.r * i.r, m.d⟩ : Lf) = L
  have Lp : Bd 3000 L.p := by rw [← hL]; show Bd 3000 (m.p * i.r + i.p * m.r); walk_at "bw"
  have Lq : Bd 3000 L.q := by rw [← hL]; show Bd 3000 (m.q * i.r + i.q * m.r); walk_at "bw"
  have Lr : Bd 3000 L.r := by rw [← hL]; show Bd 3000 (m.r * i.r); walk_at "bw"
  have Lr0 : 0 < L.r := by rw [← hL]; exact rp
  have Ld : L.d = m.d := by rw [← hL]
  have g0 : gcd3 L ≠ 0 := by
    unfold gcd3
    intro z
    have : Int.gcd (Int.gcd L.p L.q : Int) L.r = 0 := by omega
    have := (Int.gcd_eq_zero_iff.mp this).2
    omega
  have gp : 0 < gcd3 L := by unfold gcd3 at g0 ⊢; omega
  have d1 : gcd3 L ∣ L.p := Int.dvd_trans (Int.gcd_dvd_left ..) (Int.gcd_dvd_left ..)
  have d2 : gcd3 L ∣ L.q := Int.dvd_trans (Int.gcd_dvd_left ..) (Int.gcd_dvd_right ..)
  have d3 : gcd3 L ∣ L.r := Int.gcd_dvd_right ..
  have sm : ∀ {x : Int}, gcd3 L ∣ x → Bd 3000 x → Bd 3000 (x.fdiv (gcd3 L * 1)) := fun {x} hd hx => by
    rw [Int.mul_one, Int.fdiv_eq_ediv_of_dvd hd]
    exact Nat.lt_of_le_of_lt (Int.natAbs_ediv_le_natAbs x _) hx
  unfold tidyF
  refine ⟨sm d1 Lp, sm d2 Lq, sm d3 Lr, by rw [Ld]; exact bdW a4 rfl, ?_, by rw [Ld]; exact a6⟩
  show 0 < L.r.fdiv (gcd3 L * 1)
  rw [Int.mul_one, Int.fdiv_eq_ediv_of_dvd d3]
  obtain ⟨c, hc⟩ := d3
  rw [hc, Int.mul_ediv_cancel_left _ g0]
  rw [hc] at Lr0
  rcases Int.lt_trichotomy c 0 with z | z | z
  · have := Int.mul_neg_of_pos_of_neg gp z
    omega
  · rw [z, Int.mul_zero] at Lr0
    omega
  · exact z
/-- fine, finer, .. -/
def fineB (b : Int) (k : Nat) : Int := b ^ k
theorem fine_bd {b k m : Nat} (h : b ^ k < 2 ^ m) : Bd m (fineB b k) := by
  unfold fineB
  show ((b : Int) ^ k).natAbs < 2 ^ m
  rw [Int.natAbs_pow]
  exact h
theorem p1024 {k : Nat} (hk : k ≤ 53) : Bd 531 (fineB 1024 k) := by
  refine fine_bd (b := 1024) ?_
  rw [show (1024 : Nat) = 2 ^ 10 by decide, ← Nat.pow_mul]
  exact Nat.pow_lt_pow_right (by decide) (by omega)
theorem pow2 {k : Nat} (hk : k ≤ 530) : Bd 531 (fineB 2 k) := by
  refine fine_bd (b := 2) ?_
  exact Nat.pow_lt_pow_right (by decide) (by omega)
theorem cmp_loop {W n : Nat} {h : Hh} {l g : Lf} (b : BL 60 l) (c : BL 60 g) (hW : 2 ^ 8000 ≤ W) : ∀ (i m k : Nat) (x y : Option PV), i < m → k + i ≤ 53 → (∀ j : Nat, j < i → floorF l (fineB 1024 (k + j)) = floorF g (fineB 1024 (k + j))) → floorF l (fineB 1024 (k + i)) ≠ floorF g (fineB 1024 (k + i)) →
    whileL (ev (cf W (n + 2)) (.cst (.bl true))).t (ev (cf W (n + 2)) (.cons (.par [3, 4] (.cons (.call 46 (.cons (.var 0) (.cons (.var 2) .nil))) (.cons (.call 46 (.cons (.var 1) (.cons (.var 2) .nil))) .nil))) (.cons (.iff (.cmp .NotEq (.var 3) (.var 4)) (.cons (.ret (.ife (.cmp .Lt (.var 3) (.var 4)) (.neg (.cst (.int 1))) (.cst (.int 1)))) .nil) .nil) (.cons (.asg (.tn 2) (.bin .Mult (.var 2) (.cst (.int 1024)))) .nil)))).s m
      [some (IL l), some (IL g), some (.int (fineB 1024 k)), x, y] h = .ok (.rt (.int (if floorF l (fineB 1024 (k + i)) < floorF g (fineB 1024 (k + i)) then -1 else 1))) h
  | i, 0, k, x, y, h0, _, _, _ => by omega
  | i, m + 1, k, x, y, h0, h1, h2, h3 => by
    have fb := p1024 (k := k) (by omega)
    have t1 := fun h => e46 (W := W) (n := n) b (bdW fb rfl) hW h
    have t2 := fun h => e46 (W := W) (n := n) c (bdW fb rfl) hW h
    have mo : EV.MulOk (fineB 1024 k) 1024 := by walk_at "mk"
    cases i with
    | zero =>
      simp only [Nat.add_zero] at h3 ⊢
      have ne : ¬ floorF l (fineB 1024 k) = floorF g (fineB 1024 k) := h3
      refine w_rt' (kk := true) (h2 := h) ?_ rfl ?_
      · walk_at "evs"
      · by_cases lt : floorF l (fineB 1024 k) < floorF g (fineB 1024 k)
        · rw [if_pos lt]
          exists t1, t2
        · rw [if_neg lt]
          exists t1, t2
    | succ i =>
      have eq : floorF l (fineB 1024 k) = floorF g (fineB 1024 k) := h2 0 (by omega)
      have ih := cmp_loop (W := W) (n := n) (h := h) b c hW i m (k + 1) (some (.int (floorF l (fineB 1024 k)))) (some (.int (floorF g (fineB 1024 k)))) (by omega) (by omega) (fun j hj => by
        rw [show k + 1 + j = k + (j + 1) by omega]
        exact h2 (j + 1) (by omega)) (by
        rw [show k + 1 + i = k + (i + 1) by omega]
        exact h3)
      rw [show k + (i + 1) = k + 1 + i by omega]
      have fe : fineB 1024 (k + 1) = fineB 1024 k * 1024 := Int.pow_succ ..
      refine w_nx' (kk := true) (h2 := h) (h4 := h) (ρ1 := [some (IL l), some (IL g), some (.int (fineB 1024 (k + 1))), some (.int (floorF l (fineB 1024 k))), some (.int (floorF g (fineB 1024 k)))]) ?_ rfl ?_ ih
      · walk_at "evs"
      · rw [fe]
        exists t1, t2
theorem e47s {W n : Nat} {l g : Lf} (b : BL 60 l) (c : BL 60 g) (hW : 2 ^ 8000 ≤ W) (hs : sameB l g = true) (h : Hh) : evN (PW W) (n + 5) true 47 [IL l, IL g] h = .ok (.int (signF (sumF l (minusF g)))) h := by
  refine callP (d := d47) (h1 := []) rfl rfl rfl rfl rfl rfl (q_go ?_)
  dsimp only [d47, List.map, List.replicate, Nat.sub, List.cons_append, List.nil_append]
  have t1 := fun h => e45 (W := W) (n := n + 2) (b.w rfl) (c.w rfl) hW h
  have t2 := fun h => e43 (W := W) (n := n + 3) (l := g) h
  have t3 := fun h => e42 (W := W) (n := n) (b.w rfl) (c.neg.w rfl) hW h
  have t4 := fun h => e44 (W := W) (n := n + 3) (sum_bd b c.neg) h
  unfold sameB at hs
  rw [hs] at t1
  exists t1, t2, t3, t4
theorem e47u {W n : Nat} {l g : Lf} (b : BL 60 l) (c : BL 60 g) (hW : 2 ^ 8000 ≤ W) (hs : sameB l g = false) {i : Nat} (hi : i ≤ 53) (h2 : ∀ j : Nat, j < i → floorF l (fineB 1024 j) = floorF g (fineB 1024 j)) (h3 : floorF l (fineB 1024 i) ≠ floorF g (fineB 1024 i)) (h : Hh) :
    evN (PW W) (n + 5) true 47 [IL l, IL g] h = .ok (.int (if floorF l (fineB 1024 i) < floorF g (fineB 1024 i) then -1 else 1)) h := by
  refine callP (d := d47) (h1 := []) rfl rfl rfl rfl rfl rfl (q_go ?_)
  dsimp only [d47, List.map, List.replicate, Nat.sub, List.cons_append, List.nil_append]
  have t1 := fun h => e45 (W := W) (n := n + 2) (b.w rfl) (c.w rfl) hW h
  unfold sameB at hs
  rw [hs] at t1
  have hWp : i < W := Nat.lt_of_lt_of_le (Nat.lt_of_le_of_lt hi (by decide : 53 < 1000)) (Nat.le_trans (Nat.le_of_ble_eq_true (by decide +kernel : Nat.ble 1000 (2 ^ 8000) = true)) hW)
  have lp := cmp_loop (W := W) (n := n + 2) (h := []) b c hW i W 0 none none hWp (by omega) (fun j hj => by rw [Nat.zero_add]; exact h2 j hj) (by rw [Nat.zero_add]; exact h3)
  rw [Nat.zero_add] at lp
  refine q_iffF' (kk := false) (h2 := []) ?_ rfl ?_
  · exists t1
  walk_at "ev0"
  refine q_asg (v := .int 1) (h2 := []) (h4 := []) (ρ1 := [some (IL l), some (IL g), some (.int 1), none, none]) ?_ g_tn ?_
  · walk_at "evs"
  exact q_whlR lp
section
variable {W n : Nat} {ρ : En} {h h2 h4 h6 : Hh} {x y z : PV} {a b c : T}
theorem v_chnT {op op' : CmpOp} {k : Bool} (h1 : (ev (cf W n) a).e ρ h = .ok x h2) (h3 : (ev (cf W n) b).e ρ h2 = .ok y h2) (h5 : EV.cmpV op x y h2 = .ok (.bl k) h2) (hk : k = true) (h7 : (ev (cf W n) c).e ρ h2 = .ok z h2) {R : Rz PV} (h8 : EV.cmpV op' y z h2 = R) : (ev (cf W n) (.chn op op' a b c)).e ρ h = R := by
  subst hk
  show ((ev (cf W n) a).e ρ h).bnd (fun x h => ((ev (cf W n) b).e ρ h).bnd fun y h => (EV.cmpV op x y h).bnd fun k h => match k with
    | .bl true => ((ev (cf W n) c).e ρ h).bnd fun z h => EV.cmpV op' y z h
    | .bl false => .ok (PV.bl false) h
    | _ => .err) = _
  rw [h1, bnd_ok, h3, bnd_ok, h5, bnd_ok]
  show ((ev (cf W n) c).e ρ h2).bnd (fun z h => EV.cmpV op' y z h) = _
  rw [h7, bnd_ok, h8]
/-- a comprehension whose turns are all true -/
theorem lc_turns {j D : Nat} {el : T} {xs : List PV} {ρ0 : En} (he : ∀ v ∈ xs, ∀ h, (ev (cf W n) el).e (ρ0.set j (some v)) h = .ok (.bl true) h) : ∀ (r m k : Nat) (acc : List PV) (h : Hh), xs.length = k + r → r < m → D < h.length → isFl h D = some acc → acc.length + r < 1000 →
    ∃ h', compL (ev (cf W n) (.tn j)).g (ev (cf W n) .nil).t (ev (cf W n) el).e (.fix xs) ρ0 D m k h = .ok (.ref D) h' ∧ getL h' D = some (acc ++ List.replicate r (.bl true))
  | r, 0, k, acc, h, h1, h2, h3, h4, h5 => by omega
  | 0, m + 1, k, acc, h, h1, h2, h3, h4, h5 => by
    refine ⟨h, ?_, ?_⟩
    · unfold compL
      have : EV.itemAt (.fix xs) k h = some none := congrArg some (List.getElem?_eq_none (by omega))
      rw [this]
    · rw [List.replicate_zero, List.append_nil]
      unfold isFl at h4
      unfold getL
      split at h4
      · rename_i ys e
        rw [e]; exact h4
      · cases h4
  | r + 1, m + 1, k, acc, h, h1, h2, h3, h4, h5 => by
    have hk : k < xs.length := by omega
    obtain ⟨h', e1, e2⟩ := lc_turns he r m (k + 1) (acc ++ [.bl true]) (h.set D (.lst false (acc ++ [.bl true]))) (by omega) (by omega) (by rw [List.length_set]; exact h3) (by unfold isFl; rw [List.getElem?_set_self h3]) (by simp; omega)
    refine ⟨h', ?_, by rw [e2, List.append_assoc, List.replicate_succ]; rfl⟩
    unfold compL
    have : EV.itemAt (.fix xs) k h = some (some xs[k]) := congrArg some (List.getElem?_eq_getElem hk)
    rw [this]
    show ((ev (cf W n) (.tn j)).g xs[k] ρ0 h).bnd _ = _
    rw [show (ev (cf W n) (.tn j)).g xs[k] ρ0 h = .ok (ρ0.set j (some xs[k])) h from rfl, bnd_ok, show (ev (cf W n) .nil).t (ρ0.set j (some xs[k])) h = .ok true h from rfl, bnd_ok]
    dsimp only
    rw [he _ (List.getElem_mem hk), bnd_ok, h4]
    dsimp only
    rw [if_pos (by rw [sizeLine_eq]; omega)]
    exact e1
theorem v_allT {own : List Nat} {j : Nat} {it el : T} {xs : List PV} (h1 : (ev (cf W n) it).e ρ [] = .ok (.tup xs) []) (hi : (ev (cf W n) it).i ρ [] = ((ev (cf W n) it).e ρ []).bnd fun v h => match v with
    | .tup xs => .ok (.fix xs) h
    | .ref n => match getL h n with
      | some _ => .ok (.ref n) h
      | none => .err
    | _ => .err)
    (he : ∀ v ∈ xs, ∀ h, (ev (cf W n) el).e ((wipeE ρ own).set j (some v)) h = .ok (.bl true) h) (hl : xs.length < 900) (hW : 1000 ≤ W) : ∃ h', (ev (cf W n) (.blt .all (.cons (.lc own (.tn j) it .nil el) .nil))).e ρ [] = .ok (.bl true) h' := by
  obtain ⟨h', e1, e2⟩ := lc_turns (D := 0) (ρ0 := wipeE ρ own) he xs.length W 0 [] [.lst false []] (by omega) (by omega) (by decide) rfl (by simp; omega)
  refine ⟨h', ?_⟩
  show ((((ev (cf W n) it).i ρ []).bnd fun it h => if (!false || it.noClo) = true then
      (compL (ev (cf W n) (.tn j)).g (ev (cf W n) .nil).t (ev (cf W n) el).e it (wipeE ρ own) h.length W 0 (h ++ [.lst false []])).nox else .err).bnd fun x h => (Rz.ok ([] : List PV) h).bnd fun xs h => .ok (x :: xs) h).bnd (fun vs h => bltV .all vs h) = _
  rw [hi, h1, bnd_ok, bnd_ok, if_pos (show (!false || (It.fix xs).noClo) = true from rfl)]
  show (((compL _ _ _ (.fix xs) (wipeE ρ own) 0 W 0 [.lst false []]).nox.bnd fun x h => (Rz.ok ([] : List PV) h).bnd fun xs h => .ok (x :: xs) h).bnd (fun vs h => bltV .all vs h)) = _
  rw [e1]
  show allV (.ref 0) h' = _
  unfold allV
  have g : lstV h' (.ref 0) = some (List.replicate xs.length (PV.bl true)) := by
    show getL h' 0 = _
    rw [e2]; rfl
  rw [g]
  have bls : ∀ N : Nat, blsP (List.replicate N (PV.bl true)) = some (List.replicate N true) := fun N => by
    induction N with
    | zero => rfl
    | succ n ih =>
      rw [List.replicate_succ]
      show (match blsP (List.replicate n (PV.bl true)) with
        | some l => some (true :: l)
        | none => none) = _
      rw [ih]; rfl
  show (match blsP (List.replicate xs.length (PV.bl true)) with
      | some l => Rz.ok (PV.bl (l.all id)) h'
      | none => .err) = _
  rw [bls]
  show Rz.ok (PV.bl ((List.replicate xs.length true).all id)) h' = _
  rw [List.all_eq_true.mpr fun x hx => by rw [(List.mem_replicate.mp hx).2]; rfl]
end
theorem e1 {W n : Nat} {x : Int} (h : Hh) : evN (PW W) (n + 1) true 1 [.int x] h = .ok (.bl true) h := by
  refine callP (d := d1) (h1 := []) rfl rfl rfl rfl rfl rfl (q_go ?_)
  dsimp only [d1, List.map, List.replicate, Nat.sub, List.cons_append, List.nil_append]
  refine q_ret ?_
  refine v_an (k := true) (l := true) (h2 := []) ?_ fun _ => ?_
  · walk_at "evs"
  · refine v_nt (k := false) ?_
    walk_at "evs"
theorem e6 {W n : Nat} {x : Int} (hx : Bd 1000 x) (h : Hh) : evN (PW W) (n + 2) true 6 [.int x] h = .ok (.bl true) h := by
  refine callP (d := d6) (h1 := []) rfl rfl rfl rfl rfl rfl (q_go ?_)
  dsimp only [d6, List.map, List.replicate, Nat.sub, List.cons_append, List.nil_append]
  have big : (2 : Nat) ^ 1000 ≤ 10 ^ 400 := by decide +kernel
  have hx' : x.natAbs < 10 ^ 400 := Nat.lt_of_lt_of_le hx big
  obtain ⟨FG, eF⟩ : ∃ FG : Int, prog.glob[1]? = some (.int FG) ∧ FG = ((10 ^ 400 : Nat) : Int) := ⟨_, rfl, by decide +kernel⟩
  have l1 : -FG < x := by rw [eF.2]; omega
  have l2 : x < FG := by rw [eF.2]; omega
  refine q_ret ?_
  refine v_an (k := true) (l := true) (h2 := []) ?_ fun _ => ?_
  · exists e1
  · have s1 : (ev (cf W (n + 1)) (.glb 1)).e [some (PV.int x)] [] = .ok (PV.int FG) [] := v_glb eF.1
    refine v_chnT (k := decide (-FG < x)) (h2 := []) (v_neg s1) (v_var rfl) c_lt (decide_eq_true l1) s1 ?_
    rw [← decide_eq_true l2]
    exact c_lt
section
variable {W n : Nat} {ρ : En} {h h2 h4 : Hh} {a b : T}
theorem t_ooF {l : Bool} (h1 : (ev (cf W n) a).t ρ h = .ok false h2) (h3 : (ev (cf W n) b).t ρ h2 = .ok l h4) : (ev (cf W n) (.oo a b)).t ρ h = .ok l h4 := by
  show ((ev (cf W n) a).t ρ h).bnd (fun x h => if x = true then .ok true h else (ev (cf W n) b).t ρ h) = _
  rw [h1, bnd_ok, if_neg (by decide), h3]
theorem t_ooT (h1 : (ev (cf W n) a).t ρ h = .ok true h2) : (ev (cf W n) (.oo a b)).t ρ h = .ok true h2 := by
  show ((ev (cf W n) a).t ρ h).bnd (fun x h => if x = true then .ok true h else (ev (cf W n) b).t ρ h) = _
  rw [h1, bnd_ok, if_pos rfl]
theorem c_nin2 {i a b : Int} : EV.cmpV .NotIn (.int i) (.tup [.int a, .int b]) h = .ok (.bl (!(a == i || (b == i || false)))) h := rfl
theorem c_neF {i j : Int} (e : i = j) : EV.cmpV .NotEq (.int i) (.int j) h = .ok (.bl false) h := by
  subst e
  show Rz.ok (PV.bl (!decide (i = i))) h = _
  simp
theorem c_neT {i j : Int} (e : i ≠ j) : EV.cmpV .NotEq (.int i) (.int j) h = .ok (.bl true) h := by
  show Rz.ok (PV.bl (!decide (i = j))) h = _
  simp [e]
theorem i_var {i : Nat} : (ev (cf W n) (.var i)).i ρ h = ((ev (cf W n) (.var i)).e ρ h).bnd fun v h => match v with
    | .tup xs => .ok (.fix xs) h
    | .ref n => match getL h n with
      | some _ => .ok (.ref n) h
      | none => .err
    | _ => .err := rfl
end
def OkN : Nm → Prop
  | .fr t b => Bd 25 t ∧ Bd 25 b ∧ 0 < b ∧ Int.gcd t b = 1
  | .rt a b c s => Bd 25 a ∧ Bd 25 b ∧ Bd 25 c ∧ 1 ≤ a ∧ (s = 1 ∨ s = -1) ∧ Int.gcd (Int.gcd a b : Int) c = 1 ∧ 0 < b * b - 4 * a * c ∧ isq (b * b - 4 * a * c).toNat * isq (b * b - 4 * a * c).toNat ≠ (b * b - 4 * a * c).toNat
theorem e5f {W n : Nat} {t b : Int} (ok : OkN (.fr t b)) (hW : 2 ^ 8000 ≤ W) (h : Hh) : evN (PW W) (n + 3) true 5 [IN (.fr t b)] h = .ok (.bl true) h := by
  obtain ⟨h1, h2, h3, h4⟩ := ok
  have w1 : 1000 ≤ W := Nat.le_trans (Nat.le_of_ble_eq_true (by decide +kernel : Nat.ble 1000 (2 ^ 8000) = true)) hW
  obtain ⟨h', al⟩ := v_allT (W := W) (n := n + 2) (ρ := [some (IN (.fr t b)), none]) (own := [1]) (j := 1) (it := .var 0) (el := .call 6 (.cons (.var 1) .nil)) (xs := [.int t, .int b]) (v_var rfl) i_var (fun v hv h => by
    rcases List.mem_cons.mp hv with e | hv
    · subst e
      have t6 := fun h => e6 (W := W) (n := n) (x := t) (bdW h1 rfl) h
      exists t6
    · rcases List.mem_cons.mp hv with e | hv
      · subst e
        have t6 := fun h => e6 (W := W) (n := n) (x := b) (bdW h2 rfl) h
        exists t6
      · cases hv) (by simp) w1
  refine callP (d := d5) (h1 := h') rfl rfl rfl rfl rfl rfl (q_go ?_)
  dsimp only [d5, List.map, List.replicate, Nat.sub, List.cons_append, List.nil_append]
  refine q_iffF (h2 := h') ?_ ?_
  · refine t_ooF (h2 := []) (t_nt (k := true) ?_) (t_ooF (h2 := []) (t_cmp (k := false) ?_) (t_nt (k := true) (t_blt al)))
    · walk_at "evs"
    · exact v_cmp (h2 := []) (h4 := []) (x := .int 2) (y := .int 2) (v_lenT (xs := [.int t, .int b]) (v_var rfl)) v_cst (c_neF rfl)
  · have w2 : b.natAbs < W := Nat.lt_of_lt_of_le h2 (Nat.le_trans (Nat.pow_le_pow_right (by decide) (by decide)) hW)
    have t3 := fun h => e3 (W := W) (n := n + 1) (x := t) (y := b) w2 h
    rw [h4] at t3
    walk_at "ev0"
    have e : PV.bl true = PV.bl (decide (0 < b) && decide (((1 : Nat) : Int) = 1)) := by simp [h3]
    rw [e]
    exists t3
theorem e5r {W n : Nat} {a b c s : Int} (h : Hh) : evN (PW W) (n + 1) true 5 [IN (.rt a b c s)] h = .ok (.bl false) h := by
  refine callP (d := d5) (h1 := []) rfl rfl rfl rfl rfl rfl (q_go ?_)
  dsimp only [d5, List.map, List.replicate, Nat.sub, List.cons_append, List.nil_append]
  refine q_iffT (h2 := []) ?_ ?_
  · refine t_ooF (h2 := []) (t_nt (k := true) ?_) (t_ooT (t_cmp (k := true) ?_))
    · unfold IN
      walk_at "evs"
    · exact v_cmp (h2 := []) (h4 := []) (x := .int 4) (y := .int 2) (v_lenT (xs := [.int a, .int b, .int c, .int s]) (v_var rfl)) v_cst (c_neT (by decide))
  · walk_at "evs"
theorem e14 {W n : Nat} {a b c s : Int} (ok : OkN (.rt a b c s)) (hW : 2 ^ 8000 ≤ W) (h : Hh) : evN (PW W) (n + 3) true 14 [IN (.rt a b c s)] h = .ok (.bl true) h := by
  obtain ⟨h1, h2, h3, h4, h5, h6, h7, h8⟩ := ok
  have w1 : 1000 ≤ W := Nat.le_trans (Nat.le_of_ble_eq_true (by decide +kernel : Nat.ble 1000 (2 ^ 8000) = true)) hW
  have bs : Bd 25 s := by rcases h5 with z | z <;> subst z <;> decide
  obtain ⟨h', al⟩ := v_allT (W := W) (n := n + 2) (ρ := [some (IN (.rt a b c s)), none, none, none, none, none, none]) (own := [6]) (j := 6) (it := .var 0) (el := .call 6 (.cons (.var 6) .nil)) (xs := [.int a, .int b, .int c, .int s]) (v_var rfl) i_var (fun v hv h => by
    have k : ∀ {x : Int}, Bd 25 x → (ev (cf W (n + 2)) (.call 6 (.cons (.var 6) .nil))).e ((wipeE [some (IN (.rt a b c s)), none, none, none, none, none, none] [6]).set 6 (some (.int x))) h = .ok (.bl true) h := fun {x} hx => by
      have t6 := fun h => e6 (W := W) (n := n) (x := x) (bdW hx rfl) h
      exists t6
    simp only [List.mem_cons, List.not_mem_nil, or_false] at hv
    rcases hv with e | e | e | e <;> subst e
    · exact k h1
    · exact k h2
    · exact k h3
    · exact k bs) (by simp) w1
  refine callP (d := d14) (h1 := h') rfl rfl rfl rfl rfl rfl (q_go ?_)
  dsimp only [d14, List.map, List.replicate, Nat.sub, List.cons_append, List.nil_append]
  have w2 : ∀ {x : Int}, Bd 25 x → x.natAbs < W := fun hx => Nat.lt_of_lt_of_le hx (Nat.le_trans (Nat.pow_le_pow_right (by decide) (by decide)) hW)
  have t3 := fun h => e3 (W := W) (n := n + 1) (x := a) (y := b) (w2 h2) h
  have t4 := fun h => e3 (W := W) (n := n + 1) (x := (Int.gcd a b : Int)) (y := c) (w2 h3) h
  rw [h6] at t4
  have ib : Bd 60 (b * b - 4 * a * c) := by walk_at "bw"
  have t2 := fun h => e2 (W := W) (n := n + 1) (N := (b * b - 4 * a * c).toNat) (Nat.lt_trans (toNat_bd ib) (Nat.pow_lt_pow_right (by decide) (by decide))) hW h
  rw [Int.toNat_of_nonneg (Int.le_of_lt h7)] at t2
  refine q_iffF (h2 := h') ?_ ?_
  · refine t_ooF (h2 := []) (t_nt (k := true) ?_) (t_ooF (h2 := []) (t_cmp (k := false) ?_) (t_nt (k := true) (t_blt al)))
    · unfold IN
      walk_at "evs"
    · exact v_cmp (h2 := []) (h4 := []) (x := .int 4) (y := .int 4) (v_lenT (xs := [.int a, .int b, .int c, .int s]) (v_var rfl)) v_cst (c_neF rfl)
  walk_at "ev0"
  unfold IN
  refine q_asg (v := .tup [.int a, .int b, .int c, .int s]) (h2 := h') (h4 := h') (ρ1 := [some (.tup [.int a, .int b, .int c, .int s]), none, some (.int a), some (.int b), some (.int c), some (.int s), none]) (v_var rfl) ?_ ?_
  · walk_at "evs"
  have na : ¬ a < 1 := by omega
  refine q_iffF (h2 := h') ?_ ?_
  · refine t_ooF (h2 := h') (t_cmp (k := false) ?_) (t_ooF (h2 := h') (t_cmp (k := false) ?_) (t_cmp (k := false) ?_))
    · rw [← decide_eq_false na]
      walk_at "evs"
    · refine v_cmp (h2 := h') (h4 := h') (x := .int s) (y := .tup [.int (-1), .int 1]) ?_ ?_ ?_
      · walk_at "evs"
      · walk_at "evs"
      · rcases h5 with z | z <;> subst z <;> exact c_nin2
    · refine v_cmp (h2 := h') (h4 := h') (x := .int ((1 : Nat) : Int)) (y := .int 1) ?_ ?_ (c_neF rfl)
      · exists t3, t4
      · walk_at "evs"
  have nb := isq_bd (Int.le_of_lt h7) ib
  have pk : PowOk ((isq (b * b - 4 * a * c).toNat : Nat) : Int) 2 := by
    refine ⟨by decide, ?_⟩
    have : ((isq (b * b - 4 * a * c).toNat : Nat) : Int).natAbs.log2 ≤ 60 := by
      by_cases z : ((isq (b * b - 4 * a * c).toNat : Nat) : Int).natAbs = 0
      · rw [z]; decide
      · exact Nat.le_of_lt ((Nat.log2_lt z).mpr nb)
    show (_ + 1) * 2 ≤ 134217728
    omega
  have ne : ¬ ((isq (b * b - 4 * a * c).toNat : Nat) : Int) ^ (2 : Int).toNat = b * b - 4 * a * c := fun z => by
    have e2 : ((isq (b * b - 4 * a * c).toNat : Nat) : Int) ^ (2 : Int).toNat = ((isq (b * b - 4 * a * c).toNat * isq (b * b - 4 * a * c).toNat : Nat) : Int) := by
      show ((isq (b * b - 4 * a * c).toNat : Nat) : Int) ^ 2 = _
      rw [Int.pow_succ, Int.pow_succ, Int.pow_zero, Int.one_mul, Int.natCast_mul]
    rw [e2] at z
    exact h8 (by omega)
  walk_at "ev0"
  refine q_asg (v := .int (b * b - 4 * a * c)) (h2 := h') (h4 := h') (ρ1 := [some (.tup [.int a, .int b, .int c, .int s]), some (.int (b * b - 4 * a * c)), some (.int a), some (.int b), some (.int c), some (.int s), none]) ?_ g_tn ?_
  · walk_at "evs"
  have e : PV.bl true = PV.bl (decide (0 < b * b - 4 * a * c) && (!decide (((isq (b * b - 4 * a * c).toNat : Nat) : Int) ^ (2 : Int).toNat = b * b - 4 * a * c))) := by
    rw [decide_eq_true h7, decide_eq_false ne]; rfl
  rw [e]
  exists t2
theorem e15 {W n : Nat} {x : Nm} (ok : OkN x) (hW : 2 ^ 8000 ≤ W) (h : Hh) : evN (PW W) (n + 4) true 15 [IN x] h = .ok (.bl true) h := by
  cases x with
  | fr t b =>
    refine callP (d := d15) (h1 := []) rfl rfl rfl rfl rfl rfl (q_go ?_)
    dsimp only [d15, List.map, List.replicate, Nat.sub, List.cons_append, List.nil_append]
    have t5 := fun h => e5f (W := W) (n := n) ok hW h
    refine q_ret ?_
    refine v_oo (k := true) (l := true) (h2 := []) ?_ (fun z => by cases z)
    exists t5
  | rt a b c s =>
    refine callP (d := d15) (h1 := []) rfl rfl rfl rfl rfl rfl (q_go ?_)
    dsimp only [d15, List.map, List.replicate, Nat.sub, List.cons_append, List.nil_append]
    have t5 := fun h => e5r (W := W) (n := n + 2) (a := a) (b := b) (c := c) (s := s) h
    have t14 := fun h => e14 (W := W) (n := n) ok hW h
    refine q_ret ?_
    refine v_oo (k := false) (l := true) (h2 := []) ?_ (fun z => ?_)
    · exists t5
    · exists t14
theorem e16 {W n : Nat} {x : Nm} (ok : OkN x) (hW : 2 ^ 8000 ≤ W) (h : Hh) : evN (PW W) (n + 5) true 16 [IN x] h = .ok .non h := by
  have t15 := fun h => e15 (W := W) (n := n) ok hW h
  cases x with
  | fr t b =>
    refine callN (d := d16) (h1 := []) (ρ := [some (IN (.fr t b))]) rfl rfl rfl rfl rfl (q_go ?_)
    dsimp only [d16, List.map, List.replicate, Nat.sub, List.cons_append, List.nil_append]
    refine q_iffF (h2 := []) (t_nt (k := true) ?_) ?_
    · exists t15
    · walk_at "evs"
  | rt a b c s =>
    refine callN (d := d16) (h1 := []) (ρ := [some (IN (.rt a b c s))]) rfl rfl rfl rfl rfl (q_go ?_)
    dsimp only [d16, List.map, List.replicate, Nat.sub, List.cons_append, List.nil_append]
    refine q_iffF (h2 := []) (t_nt (k := true) ?_) ?_
    · exists t15
    · walk_at "evs"
theorem e17 {W n : Nat} {x : Nm} (ok : OkN x) (hW : 2 ^ 8000 ≤ W) (h : Hh) : evN (PW W) (n + 3) true 17 [IN x] h = .ok (IE (elF x)) h := by
  cases x with
  | fr t b => exact e17f (n := n + 1) h
  | rt a b c s =>
    obtain ⟨h1, h2, h3, h4, h5, _⟩ := ok
    exact e17r (bdW h1 rfl) (bdW h2 rfl) (bdW h3 rfl) (by rcases h5 with z | z <;> subst z <;> exact bdW (show Bd 25 _ by decide) rfl) (by omega) hW h
structure BEk (k : Nat) (e : El) : Prop where
  u : Bd2 k e.u
  v : Bd2 k e.v
  d : Bd 60 e.d
  u0 : 0 < e.u.2
  v0 : 0 < e.v.2
  d0 : 0 ≤ e.d
theorem BEk.b6 {k : Nat} {e : El} (b : BEk k e) (h : Nat.ble k 600 = true) : BE6 e := ⟨⟨bdW b.u.1 h, bdW b.u.2 h⟩, ⟨bdW b.v.1 h, bdW b.v.2 h⟩, b.d, b.u0, b.v0, b.d0⟩
theorem el_bd {x : Nm} (ok : OkN x) : BEk 27 (elF x) := by
  cases x with
  | fr t b =>
    obtain ⟨h1, h2, h3, h4⟩ := ok
    exact ⟨⟨bdW h1 rfl, bdW h2 rfl⟩, ⟨by show Bd 27 0; decide, by show Bd 27 1; decide⟩, by show Bd 60 0; decide, h3, by show (0 : Int) < 1; decide, Int.le_refl _⟩
  | rt a b c s =>
    obtain ⟨h1, h2, h3, h4, h5, h6, h7, h8⟩ := ok
    have bs : Bd 25 s := by rcases h5 with z | z <;> subst z <;> decide
    have a0 : 2 * a ≠ 0 := by omega
    exact ⟨rate_bd a0 (by walk_at "bw") (by walk_at "bw"), rate_bd a0 (by walk_at "bw") (by walk_at "bw"), by show Bd 60 (b * b - 4 * a * c); walk_at "bw", rate_pos a0, rate_pos a0, Int.le_of_lt h7⟩
theorem plain_bd {k : Nat} {p : Int × Int} (h : Bd2 k p) (h0 : 0 < p.2) (hk : Nat.ble 1 k = true) : BEk k (plainF p) := ⟨h, ⟨bdW bd0 hk, bdW bd1 hk⟩, by show Bd 60 0; decide, h0, by show (0 : Int) < 1; decide, Int.le_refl _⟩
theorem sc_bd {e : El} (b : BEk 27 e) {f : Int} (hf : Bd 531 f) (f0 : 0 < f) : BEk 558 (scaledF e f) := by
  have u1 : e.u.2 * 1 ≠ 0 := by have := b.u0; omega
  have v1 : e.v.2 * 1 ≠ 0 := by have := b.v0; omega
  have tu : Bd2 558 (timesF e.u (f, 1)) := rate_bd u1 (bdMul b.u.1 hf) (bdW (bdMul b.u.2 bd1) rfl)
  have tv : Bd2 558 (timesF e.v (f, 1)) := rate_bd v1 (bdMul b.v.1 hf) (bdW (bdMul b.v.2 bd1) rfl)
  unfold scaledF madeF
  split
  · exact ⟨tu, tv, b.d, rate_pos u1, rate_pos v1, b.d0⟩
  · exact plain_bd tu (rate_pos u1) rfl
theorem e11' {W n : Nat} {e : El} (b : BEk 27 e) {f : Int} (hf : Bd 531 f) (hW : 2 ^ 8000 ≤ W) (h : Hh) : evN (PW W) (n + 4) true 11 [IE e, .tup [.int f, .int 1]] h = .ok (IE (scaledF e f)) h :=
  e11 ⟨bdW b.u.1 rfl, bdW b.u.2 rfl⟩ ⟨bdW b.v.1 rfl, bdW b.v.2 rfl⟩ (by have := b.u0; omega) (by have := b.v0; omega) (bdW hf rfl) hW h
/-- m is what told_whole tells -/
def TwOk (e : El) (m : Int) : Prop := (e.v.1 = 0 ∧ m = e.u.1.fdiv e.u.2) ∨ (e.v.1 ≠ 0 ∧ ∃ i : Nat, i < 1000 ∧ (∀ j : Nat, j < i → geE e (f0F e + 1 + j)) ∧ ¬ geE e (f0F e + 1 + i) ∧ m = f0F e + i)
theorem e23' {W n : Nat} {e : El} {m : Int} (b : BE6 e) (t : TwOk e m) (hW : 2 ^ 8000 ≤ W) (h : Hh) : evN (PW W) (n + 5) true 23 [IE e] h = .ok (.int m) h := by
  rcases t with ⟨h1, rfl⟩ | ⟨h1, i, hi, h2, h3, rfl⟩
  · exact e23z b h1 h
  · exact e23 b h1 hW hi h2 h3 h
theorem tw_bd {e : El} {m : Int} (b : BE6 e) (t : TwOk e m) : Bd 1865 m := by
  rcases t with ⟨h1, rfl⟩ | ⟨h1, i, hi, h2, h3, rfl⟩
  · exact bdW (fdiv_bd b.u.1 b.u0) rfl
  · exact bdW (bdAdd (f0_bd b) (show Bd 11 (i : Int) by show i < 2 ^ 11; omega)) rfl
theorem e22 {W n : Nat} {x : Nm} {m : Int} (ok : OkN x) (t : TwOk (elF x) m) (hW : 2 ^ 8000 ≤ W) (h : Hh) : evN (PW W) (n + 6) true 22 [IN x] h = .ok (.int m) h := by
  have t1 := fun h => e16 (W := W) (n := n) ok hW h
  have t2 := fun h => e17 (W := W) (n := n + 2) ok hW h
  have t3 := fun h => e23' (W := W) (n := n) ((el_bd ok).b6 rfl) t hW h
  have pa : PV.pures [IN x] = true := by cases x <;> rfl
  refine callP (d := d22) (h1 := []) rfl rfl rfl rfl pa rfl (q_go ?_)
  dsimp only [d22, List.map, List.replicate, Nat.sub, List.cons_append, List.nil_append]
  exists t1, t2, t3
theorem e0 {W n : Nat} {x lo hi : Int} (h1 : lo ≤ x) (h2 : x ≤ hi) (h : Hh) : evN (PW W) (n + 1) true 0 [.int x, .int lo, .int hi] h = .ok (.bl true) h := by
  refine callP (d := d0) (h1 := []) rfl rfl rfl rfl rfl rfl (q_go ?_)
  dsimp only [d0, List.map, List.replicate, Nat.sub, List.cons_append, List.nil_append]
  refine q_ret ?_
  refine v_an (k := true) (l := true) (h2 := []) ?_ fun _ => v_an (k := true) (l := true) (h2 := []) ?_ fun _ => ?_
  · walk_at "evs"
  · refine v_nt (k := false) ?_
    walk_at "evs"
  · refine v_chnT (k := decide (lo ≤ x)) (h2 := []) (v_var rfl) (v_var rfl) c_le (decide_eq_true h1) (v_var rfl) ?_
    rw [← decide_eq_true h2]
    exact c_le
theorem e24 {W n : Nat} {x : Nm} {f m : Int} (ok : OkN x) (f1 : 1 ≤ f) (f2 : f ≤ 1000000) (t : TwOk (scaledF (elF x) f) m) (hW : 2 ^ 8000 ≤ W) (h : Hh) : evN (PW W) (n + 6) true 24 [IN x, .int f] h = .ok (I2 (rateF m f)) h := by
  have bf : Bd 20 f := by show f.natAbs < 2 ^ 20; omega
  have t1 := fun h => e16 (W := W) (n := n) ok hW h
  have t2 := fun h => e17 (W := W) (n := n + 2) ok hW h
  have t3 := fun h => e23' (W := W) (n := n) ((sc_bd (el_bd ok) (bdW bf rfl) (by omega)).b6 rfl) t hW h
  have t4 := fun h => e11' (W := W) (n := n + 1) (el_bd ok) (f := f) (bdW bf rfl) hW h
  have t5 := fun h => e4 (W := W) (n := n + 3) (t := m) (b := f) (by omega) (bdW bf rfl) hW h
  have t0 := fun h => e0 (W := W) (n := n + 4) (x := f) (lo := 1) (hi := 1000000) f1 f2 h
  have pa : PV.pures [IN x, .int f] = true := by cases x <;> rfl
  refine callP (d := d24) (h1 := []) rfl rfl rfl rfl pa rfl (q_go ?_)
  dsimp only [d24, List.map, List.replicate, Nat.sub, List.cons_append, List.nil_append]
  walk_at "ev0"
  · exists t1
  refine q_iffF (h2 := []) (t_nt (k := true) ?_) ?_
  · exists t0
  exists t2, t4, t3, t5
theorem e21 {W n : Nat} {x y : Nm} (ok : OkN x) (ok' : OkN y) (hW : 2 ^ 8000 ≤ W) (h : Hh) : evN (PW W) (n + 6) true 21 [IN x, IN y] h = .ok (.int (sb (elF x) (elF y))) h := by
  have t1 := fun h => e16 (W := W) (n := n) ok hW h
  have t1' := fun h => e16 (W := W) (n := n) ok' hW h
  have t2 := fun h => e17 (W := W) (n := n + 2) ok hW h
  have t2' := fun h => e17 (W := W) (n := n + 2) ok' hW h
  have t3 := fun h => e19 (W := W) (n := n + 1) ((el_bd ok).b6 rfl).be ((el_bd ok').b6 rfl).be h
  have pa : PV.pures [IN x, IN y] = true := by cases x <;> cases y <;> rfl
  refine callP (d := d21) (h1 := []) rfl rfl rfl rfl pa rfl (q_go ?_)
  dsimp only [d21, List.map, List.replicate, Nat.sub, List.cons_append, List.nil_append]
  exists t1, t1', t2, t2', t3
theorem e20 {W n : Nat} {x y : Nm} (ok : OkN x) (ok' : OkN y) (hW : 2 ^ 8000 ≤ W) (h : Hh) : evN (PW W) (n + 6) true 20 [IN x, IN y] h = .ok (.bl (decide (sb (elF x) (elF y) < 0))) h := by
  have t1 := fun h => e16 (W := W) (n := n) ok hW h
  have t1' := fun h => e16 (W := W) (n := n) ok' hW h
  have t2 := fun h => e17 (W := W) (n := n + 2) ok hW h
  have t2' := fun h => e17 (W := W) (n := n + 2) ok' hW h
  have t3 := fun h => e19 (W := W) (n := n + 1) ((el_bd ok).b6 rfl).be ((el_bd ok').b6 rfl).be h
  have pa : PV.pures [IN x, IN y] = true := by cases x <;> cases y <;> rfl
  refine callP (d := d20) (h1 := []) rfl rfl rfl rfl pa rfl (q_go ?_)
  dsimp only [d20, List.map, List.replicate, Nat.sub, List.cons_append, List.nil_append]
  exists t1, t1', t2, t2', t3
/-- the fraction that the loop tries -/
def fdF (m : Int) (k : Nat) : Int × Int := rateF (m + 1) (fineB 2 k)
theorem fine_pos (k : Nat) : 0 < fineB 2 k := Int.pow_pos (by decide)
theorem fd_bd {m : Int} {k : Nat} (hm : Bd 1865 m) (hk : k ≤ 530) : Bd2 1867 (fdF m k) ∧ 0 < (fdF m k).2 := by
  have f0 : fineB 2 k ≠ 0 := by have := fine_pos k; omega
  exact ⟨rate_bd f0 (by walk_at "bw") (bdW (pow2 hk) rfl), rate_pos f0⟩
theorem bt_loop {W n : Nat} {h : Hh} {e g : El} (b : BEk 27 e) (c : BEk 27 g) (hW : 2 ^ 8000 ≤ W) {mm : Nat → Int} : ∀ (i m k : Nat) (x : Option PV), i < m → k + i ≤ 530 → (∀ j : Nat, j ≤ i → TwOk (scaledF e (fineB 2 (k + j))) (mm (k + j))) → (∀ j : Nat, j < i → ¬ sb (plainF (fdF (mm (k + j)) (k + j))) g < 0) → sb (plainF (fdF (mm (k + i)) (k + i))) g < 0 →
    whileL (ev (cf W (n + 5)) (.cst (.bl true))).t (ev (cf W (n + 5)) (.cons (.asg (.tn 3) (.call 4 (.cons (.bin .Add (.call 23 (.cons (.call 11 (.cons (.var 0) (.cons (.tup (.cons (.var 2) (.cons (.cst (.int 1)) .nil))) .nil))) .nil)) (.cst (.int 1))) (.cons (.var 2) .nil)))) (.cons (.iff (.cmp .Lt (.call 19 (.cons (.call 9 (.cons (.var 3) .nil)) (.cons (.var 1) .nil))) (.cst (.int 0))) (.cons (.ret (.var 3)) .nil) .nil) (.cons (.aug 2 .Mult (.cst (.int 2))) .nil)))).s m
      [some (IE e), some (IE g), some (.int (fineB 2 k)), x] h = .ok (.rt (I2 (fdF (mm (k + i)) (k + i)))) h
  | i, 0, k, x, h0, _, _, _, _ => by omega
  | i, m + 1, k, x, h0, h1, h2, h3, h4 => by
    have fb := pow2 (k := k) (by omega)
    have fp := fine_pos k
    have tw0 : TwOk (scaledF e (fineB 2 k)) (mm k) := h2 0 (by omega)
    have b6 := (sc_bd b fb fp).b6 rfl
    have mb := tw_bd b6 tw0
    obtain ⟨db, d0⟩ := fd_bd (k := k) mb (by omega)
    have t1 := fun h => e11' (W := W) (n := n + 1) b fb hW h
    have t2 := fun h => e23' (W := W) (n := n) b6 tw0 hW h
    have t3 := fun h => e4 (W := W) (n := n + 3) (t := mm k + 1) (b := fineB 2 k) (by omega) (bdW fb rfl) hW h
    have t4 := fun h => e9 (W := W) (n := n + 4) (p := fdF (mm k) k) h
    have pb := plain_bd (k := 1867) db d0 rfl
    have t5 := fun h => e19 (W := W) (n := n + 1) (e := plainF (fdF (mm k) k)) (g := g) ⟨⟨bdW pb.u.1 rfl, bdW pb.u.2 rfl⟩, ⟨bdW pb.v.1 rfl, bdW pb.v.2 rfl⟩, bdW pb.d rfl⟩ (c.b6 rfl).be h
    have mo : EV.MulOk (fineB 2 k) 2 := by walk_at "mk"
    unfold fdF at t4 t5
    cases i with
    | zero =>
      simp only [Nat.add_zero] at h4 ⊢
      unfold fdF at h4 ⊢
      refine w_rt' (kk := true) (h2 := h) ?_ rfl ?_
      · walk_at "evs"
      · exists t1, t2, t3, t4, t5
    | succ i =>
      have c0 : ¬ sb (plainF (fdF (mm k) k)) g < 0 := h3 0 (by omega)
      unfold fdF at c0
      have ih := bt_loop (W := W) (n := n) (h := h) b c hW (mm := mm) i m (k + 1) (some (I2 (rateF (mm k + 1) (fineB 2 k)))) (by omega) (by omega) (fun j hj => by
        rw [show k + 1 + j = k + (j + 1) by omega]
        exact h2 (j + 1) (by omega)) (fun j hj => by
        rw [show k + 1 + j = k + (j + 1) by omega]
        exact h3 (j + 1) (by omega)) (by
        rw [show k + 1 + i = k + (i + 1) by omega]
        exact h4)
      rw [show k + (i + 1) = k + 1 + i by omega]
      have fe : fineB 2 (k + 1) = fineB 2 k * 2 := Int.pow_succ ..
      refine w_nx' (kk := true) (h2 := h) (h4 := h) (ρ1 := [some (IE e), some (IE g), some (.int (fineB 2 (k + 1))), some (I2 (rateF (mm k + 1) (fineB 2 k)))]) ?_ rfl ?_ ih
      · walk_at "evs"
      · rw [fe]
        exists t1, t2, t3, t4, t5
open SR (PR RT sgn)
instance instRT {r o : Int} (T : RT r o) : PR T.R := T.pr
local macro_rules | `(tactic| walk_at "ln") => `(tactic| first | (refine SR.bl fun _ => ?_; grind) | (refine SR.bg fun _ => ?_; grind) | grind)
theorem ci {R : Type} [PR R] (i : Int) : sgn (SR.c (R := R) i) = sgi i := SR.sgn_c i
theorem cpos {R : Type} [PR R] {i : Int} : 0 < SR.c (R := R) i ↔ 0 < i := by
  constructor
  · intro h
    refine SR.c_lt' (R := R) ?_
    rwa [SR.c_zero]
  · exact SR.c_pos
theorem cnn {R : Type} [PR R] {i : Int} : SR.c (R := R) i ≤ 0 ↔ i ≤ 0 := by
  constructor
  · intro h
    refine SR.c_le' (R := R) ?_
    rwa [SR.c_zero]
  · intro h
    have := SR.c_le (R := R) h
    rwa [SR.c_zero] at this
theorem sgn_sgu {R : Type} [PR R] {w : R} {r : Int} (w0 : 0 ≤ w) (hw : w * w = SR.c r) (x y : Int) : sgn (SR.c x + SR.c y * w) = sgu x y r := by
  obtain ⟨h1, h2⟩ := SR.root_sgn w0 hw (SR.c x) (SR.c y)
  unfold sgu
  by_cases p : 0 < r
  · rw [h1 (cpos.mpr p), if_pos p, ci, ci, show (SR.c x * SR.c x - SR.c y * SR.c y * SR.c r : R) = SR.c (x * x - y * y * r) by rw [SR.c_sub, SR.c_mul, SR.c_mul, SR.c_mul], ci]
  · rw [h2 (cnn.mpr (by omega)), if_neg p, ci]
theorem sgu0 (t r : Int) : sgu t 0 r = sgi t := by
  unfold sgu
  rw [show sgi 0 = 0 from rfl]
  simp
theorem sgn_s4 {r o : Int} (T : RT r o) (f s t : Int) : sgn (SR.c f + SR.c s * T.u + SR.c t * T.v) = s4 f s t r o := by
  obtain ⟨h1, h2⟩ := SR.root_sgn T.v0 T.hv (SR.c f + SR.c s * T.u) (SR.c t)
  unfold s4
  have e1 := sgn_sgu T.u0 T.hu f s
  by_cases p : 0 < o
  · rw [h1 (cpos.mpr p), if_pos p, ci, e1, sgu0]
    have e : ((SR.c f + SR.c s * T.u) * (SR.c f + SR.c s * T.u) - SR.c t * SR.c t * SR.c o : T.R) = SR.c (f * f + s * s * r - (t * t + 0 * 0 * r) * o) + SR.c (2 * (f * s - t * 0 * o)) * T.u := by
      have hu := T.hu
      have t0 : t * 0 * o = 0 := by rw [Int.mul_zero, Int.zero_mul]
      have t1 : (0 : Int) * 0 * r = 0 := by rw [Int.zero_mul, Int.zero_mul]
      have t2 : (2 : Int) * (f * s) = f * s + f * s := by omega
      rw [t0, t1, Int.sub_zero, Int.add_zero, t2]
      simp only [SR.c_add, SR.c_mul, SR.c_sub]
      grind
    rw [e, sgn_sgu T.u0 T.hu]
  · rw [h2 (cnn.mpr (by omega)), if_neg p, e1]
def RT.swap {r o : Int} (T : RT r o) : RT o r := ⟨T.R, T.pr, T.v, T.u, T.hv, T.hu, T.v0, T.u0⟩
theorem s4_swap {r o : Int} (hr : 0 ≤ r) (ho : 0 ≤ o) (f s t : Int) : s4 f s t r o = s4 f t s o r := by
  obtain ⟨T⟩ := SR.rt hr ho
  rw [← sgn_s4 T, ← sgn_s4 (RT.swap T)]
  show sgn _ = sgn (SR.c f + SR.c t * T.v + SR.c s * T.u)
  congr 1
  grind
theorem s4_scale {r o : Int} (hr : 0 ≤ r) (ho : 0 ≤ o) {k : Int} (hk : 0 < k) (f s t : Int) : s4 (k * f) (k * s) (k * t) r o = s4 f s t r o := by
  obtain ⟨T⟩ := SR.rt hr ho
  rw [← sgn_s4 T, ← sgn_s4 T]
  have e : (SR.c (k * f) + SR.c (k * s) * T.u + SR.c (k * t) * T.v : T.R) = SR.c k * (SR.c f + SR.c s * T.u + SR.c t * T.v) := by
    simp only [SR.c_mul]
    grind
  rw [e, SR.sgn_mul, SR.sgn_pos (SR.c_pos hk), Int.one_mul]
theorem s4_neg {r o : Int} (hr : 0 ≤ r) (ho : 0 ≤ o) (f s t : Int) : s4 (-f) (-s) (-t) r o = -s4 f s t r o := by
  obtain ⟨T⟩ := SR.rt hr ho
  rw [← sgn_s4 T, ← sgn_s4 T, ← SR.sgn_minus]
  congr 1
  simp only [SR.c_neg]
  grind
theorem s4_t0 (f s r o : Int) : s4 f s 0 r o = sgu f s r := by
  unfold s4
  rw [sgu0, show sgi 0 = 0 from rfl]
  simp
theorem s4_s0 {r o : Int} (hr : 0 ≤ r) (ho : 0 ≤ o) (f t : Int) : s4 f 0 t r o = sgu f t o := by rw [s4_swap hr ho, s4_t0]
theorem sgu_scale {r k : Int} (hr : 0 ≤ r) (hk : 0 < k) (f s : Int) : sgu (k * f) (k * s) r = sgu f s r := by
  have := s4_scale (r := r) (o := 0) hr (Int.le_refl 0) hk f s 0
  rwa [Int.mul_zero, s4_t0, s4_t0] at this
/-- y√d lies from flr y d on, under flr y d + 1 -/
theorem flr_ok {R : Type} [PR R] {w : R} {d : Int} (hd : 0 ≤ d) (w0 : 0 ≤ w) (hw : w * w = SR.c d) (y : Int) : SR.c (flr y d) ≤ SR.c y * w ∧ SR.c y * w < SR.c (flr y d + 1) := by
  have n0 : 0 ≤ y * y * d := Int.mul_nonneg (sq_nn y) hd
  obtain ⟨k1, k2⟩ := isq_ok (y * y * d).toNat
  have e0 : ((y * y * d).toNat : Int) = y * y * d := Int.toNat_of_nonneg n0
  generalize hN : isq (y * y * d).toNat = m at k1 k2
  have k1' : (m : Int) * m ≤ y * y * d := by rw [← e0]; exact_mod_cast k1
  have k2' : y * y * d < ((m : Int) + 1) * ((m : Int) + 1) := by rw [← e0]; exact_mod_cast k2
  have l1 := SR.c_le (R := R) k1'
  have l2 := SR.c_lt (R := R) k2'
  have m0 : 0 ≤ SR.c (R := R) (m : Int) := SR.c_nn (by omega)
  have m1 : 0 ≤ SR.c (R := R) ((m : Int) + 1) := SR.c_nn (by omega)
  simp only [SR.c_mul] at l1 l2
  unfold flr
  rw [hN]
  by_cases hy : 0 ≤ y
  · rw [if_pos hy]
    have yw : 0 ≤ SR.c (R := R) y * w := SR.mn (SR.c_nn hy) w0
    exact ⟨(SR.le_sq yw (by rw [← hw] at l1; walk_at "ln")).1, (SR.lt_sq m1 (by rw [← hw] at l2; walk_at "ln")).1⟩
  · rw [if_neg hy]
    have yw : 0 ≤ SR.c (R := R) (-y) * w := SR.mn (SR.c_nn (by omega)) w0
    rw [SR.c_neg] at yw
    have q1 := (SR.le_sq (x := SR.c (R := R) (m : Int)) (y := -SR.c y * w) yw (by rw [← hw] at l1; walk_at "ln")).1
    have q2 := (SR.lt_sq (x := -SR.c y * w) m1 (by rw [← hw] at l2; walk_at "ln")).1
    by_cases e : (m : Int) * m = y * y * d
    · have l3 : SR.c (R := R) y * SR.c y * SR.c d ≤ SR.c (m : Int) * SR.c (m : Int) := by
        have := SR.c_le (R := R) (Int.le_of_eq e.symm)
        simpa only [SR.c_mul] using this
      have q3 := (SR.le_sq (x := -SR.c y * w) (y := SR.c (R := R) (m : Int)) m0 (by rw [← hw] at l3; walk_at "ln")).1
      rw [show b2 (!decide ((m : Int) * m = y * y * d)) = 0 by simp [e, EV.b2], Int.sub_zero]
      rw [SR.c_add] at q2 ⊢
      simp only [SR.c_neg, SR.c_one] at *
      have : (0 : R) < 1 := Lean.Grind.OrderedRing.zero_lt_one
      exact ⟨by walk_at "ln", by walk_at "ln"⟩
    · have l3 : SR.c (R := R) (m : Int) * SR.c (m : Int) < SR.c y * SR.c y * SR.c d := by
        have := SR.c_lt (R := R) (show (m : Int) * m < y * y * d by omega)
        simpa only [SR.c_mul] using this
      have q3 := (SR.lt_sq (x := SR.c (R := R) (m : Int)) (y := -SR.c y * w) yw (by rw [← hw] at l3; walk_at "ln")).1
      rw [show b2 (!decide ((m : Int) * m = y * y * d)) = 1 by simp [e, EV.b2]]
      simp only [SR.c_add, SR.c_sub, SR.c_neg, SR.c_one] at *
      exact ⟨by walk_at "ln", by walk_at "ln"⟩
theorem fl_iff {d : Int} (hd : 0 ≤ d) (x y : Int) : 0 ≤ sgu x y d ↔ 0 ≤ x + flr y d := by
  obtain ⟨T⟩ := SR.rt hd (Int.le_refl 0)
  obtain ⟨h1, h2⟩ := flr_ok hd T.u0 T.hu y
  rw [← sgn_sgu T.u0 T.hu, SR.sgn_ge_iff]
  constructor
  · intro k
    refine Int.not_lt.mp fun z => ?_
    have := SR.c_le (R := T.R) (show x + flr y d + 1 ≤ 0 by omega)
    simp only [SR.c_add, SR.c_one, SR.c_zero] at this h2
    exact SR.lt_nle (x := SR.c x + SR.c y * T.u) (y := 0) (by walk_at "ln") k
  · intro k
    have := SR.c_nn (R := T.R) k
    simp only [SR.c_add] at this
    walk_at "ln"
/-- which of two is less -/
def cmpF (l g : Lf) : Int := s4 (l.p * g.r - g.p * l.r) (l.q * g.r) (-g.q * l.r) l.d g.d
/-- an element is a number of the law's -/
structure Rp (e : El) (l : Lf) : Prop where
  u0 : 0 < e.u.2
  v0 : 0 < e.v.2
  r0 : 0 < l.r
  hu : e.u.1 * l.r = l.p * e.u.2
  hv : e.v.1 * l.r = l.q * e.v.2
  hd : e.d = l.d ∨ l.q = 0
  d0 : 0 ≤ e.d
  d1 : 0 ≤ l.d
theorem sb_cmp {e g : El} {l m : Lf} (a : Rp e l) (b : Rp g m) : sb e g = cmpF l m := by
  obtain ⟨a1, a2, a3, a4, a5, a6, a7, a8⟩ := a
  obtain ⟨b1, b2, b3, b4, b5, b6, b7, b8⟩ := b
  have kp : 0 < e.u.2 * g.u.2 * e.v.2 * g.v.2 := Int.mul_pos (Int.mul_pos (Int.mul_pos a1 b1) a2) b2
  have rp : 0 < l.r * m.r := Int.mul_pos a3 b3
  have st : sb e g = s4 (l.p * m.r - m.p * l.r) (l.q * m.r) (-m.q * l.r) e.d g.d := by
    unfold sb
    rw [← s4_scale a7 b7 rp, ← s4_scale a7 b7 kp (l.p * m.r - m.p * l.r)]
    congr 1 <;> grind
  rw [st]
  unfold cmpF
  have s1 : s4 (l.p * m.r - m.p * l.r) (l.q * m.r) (-m.q * l.r) e.d g.d = s4 (l.p * m.r - m.p * l.r) (l.q * m.r) (-m.q * l.r) l.d g.d := by
    rcases a6 with z | z
    · rw [z]
    · rw [z, Int.zero_mul, s4_s0 a7 b7, s4_s0 a8 b7]
  rw [s1]
  rcases b6 with z | z
  · rw [z]
  · rw [z, Int.neg_zero, Int.zero_mul, s4_t0, s4_t0]
theorem rp_plain {p : Int × Int} (h : 0 < p.2) : Rp (plainF p) ⟨p.1, 0, p.2, 0⟩ := by
  refine ⟨h, show (0 : Int) < 1 by decide, h, rfl, ?_, .inl rfl, Int.le_refl _, Int.le_refl _⟩
  show (0 : Int) * p.2 = 0 * 1
  rw [Int.zero_mul]; rfl
theorem rp_el {x : Nm} (ok : OkN x) : Rp (elF x) (lfF x) := by
  cases x with
  | fr t b => exact rp_plain (p := (t, b)) ok.2.2.1
  | rt a b c s =>
    obtain ⟨h1, h2, h3, h4, h5, h6, h7, h8⟩ := ok
    have n2 : 2 * a ≠ 0 := by omega
    have c1 := rate_cross (t := -b) n2
    have c2 := rate_cross (t := s) n2
    refine ⟨rate_pos n2, rate_pos n2, by show 0 < 2 * a; omega, ?_, ?_, .inl rfl, Int.le_of_lt h7, Int.le_of_lt h7⟩
    · show (rateF (-b) (2 * a)).1 * (2 * a) = -b * (rateF (-b) (2 * a)).2
      rw [c1, Int.mul_comm]
    · show (rateF s (2 * a)).1 * (2 * a) = s * (rateF s (2 * a)).2
      rw [c2, Int.mul_comm]
theorem rp_sc {e : El} {l : Lf} (a : Rp e l) {f : Int} (hf : 0 < f) : Rp (scaledF e f) ⟨l.p * f, l.q * f, l.r, l.d⟩ := by
  obtain ⟨a1, a2, a3, a4, a5, a6, a7, a8⟩ := a
  have u1 : e.u.2 * 1 ≠ 0 := by omega
  have v1 : e.v.2 * 1 ≠ 0 := by omega
  have cu := rate_cross (t := e.u.1 * f) u1
  have cv := rate_cross (t := e.v.1 * f) v1
  have hu : (timesF e.u (f, 1)).1 * l.r = l.p * f * (timesF e.u (f, 1)).2 := by
    unfold timesF
    dsimp only
    refine Int.eq_of_mul_eq_mul_right (a := e.u.2) (by omega) ?_
    grind
  have hv : (timesF e.v (f, 1)).1 * l.r = l.q * f * (timesF e.v (f, 1)).2 := by
    unfold timesF
    dsimp only
    refine Int.eq_of_mul_eq_mul_right (a := e.v.2) (by omega) ?_
    grind
  unfold scaledF madeF
  split
  · refine ⟨rate_pos u1, rate_pos v1, a3, hu, hv, ?_, a7, a8⟩
    rcases a6 with z | z
    · exact .inl z
    · exact .inr (by show l.q * f = 0; rw [z, Int.zero_mul])
  · rename_i z
    have z' : (timesF e.v (f, 1)).1 = 0 := by omega
    have vp : 0 < (timesF e.v (f, 1)).2 := rate_pos v1
    have q0 : l.q * f = 0 := by
      rw [z', Int.zero_mul] at hv
      rcases Int.mul_eq_zero.mp hv.symm with h | h
      · exact h
      · omega
    refine ⟨rate_pos u1, show (0 : Int) < 1 by decide, a3, hu, ?_, .inr q0, Int.le_refl _, a8⟩
    show (0 : Int) * l.r = l.q * f * 1
    rw [q0, Int.zero_mul]; rfl
/-- the greatest int at most -/
def flF (l : Lf) : Int := (l.p + flr l.q l.d).fdiv l.r
theorem le_flF {l : Lf} (r0 : 0 < l.r) (k : Int) : k ≤ flF l ↔ 0 ≤ l.p - k * l.r + flr l.q l.d := by
  unfold flF
  rw [Int.fdiv_eq_ediv_of_nonneg _ (Int.le_of_lt r0), Int.le_ediv_iff_mul_le r0]
  constructor <;> intro h <;> omega
theorem geE_iff {e : El} {l : Lf} (a : Rp e l) (k : Int) : geE e k ↔ k ≤ flF l := by
  unfold geE
  rw [sb_cmp a (rp_plain (p := (k, 1)) (show (0 : Int) < 1 by decide))]
  unfold cmpF
  dsimp only
  rw [Int.neg_zero, Int.zero_mul, s4_t0, Int.mul_one, Int.mul_one, fl_iff a.d1, le_flF a.r0]
/-- told_whole's first guess is near -/
theorem f0_near {e : El} (u0 : 0 < e.u.2) (v0 : 0 < e.v.2) (d0 : 0 ≤ e.d) (hv : e.v.1 ≠ 0) : geE e (f0F e) ∧ ¬ geE e (f0F e + 4) := by
  have bas : ∀ k : Int, geE e k ↔ 0 ≤ sgu ((e.u.1 - k * e.u.2) * e.v.2) (e.v.1 * e.u.2) e.d := fun k => by
    unfold geE sb plainF
    dsimp only
    rw [Int.neg_zero, Int.zero_mul, Int.zero_mul, Int.zero_mul, s4_t0, Int.mul_one, Int.mul_one, Int.mul_one, Int.mul_one]
  obtain ⟨T⟩ := SR.rt d0 (Int.le_refl 0)
  -- the guess
  have vv : 0 < e.v.2 * e.v.2 := Int.mul_pos v0 v0
  have t0 : 0 ≤ e.v.1 * e.v.1 * e.d := Int.mul_nonneg (sq_nn _) d0
  obtain ⟨k1, k2⟩ := isq_ok ((e.v.1 * e.v.1 * e.d).toNat / (e.v.2 * e.v.2).toNat)
  have hn : isq ((e.v.1 * e.v.1 * e.d).toNat / (e.v.2 * e.v.2).toNat) = nearN e := rfl
  rw [hn] at k1 k2
  generalize hm : nearN e = m at k1 k2
  have vvp : 0 < (e.v.2 * e.v.2).toNat := by omega
  have j1 : m * m * (e.v.2 * e.v.2).toNat ≤ (e.v.1 * e.v.1 * e.d).toNat := (Nat.le_div_iff_mul_le vvp).mp k1
  have j2 : (e.v.1 * e.v.1 * e.d).toNat < (m + 1) * (m + 1) * (e.v.2 * e.v.2).toNat := (Nat.div_lt_iff_lt_mul vvp).mp k2
  have e1 : ((e.v.1 * e.v.1 * e.d).toNat : Int) = e.v.1 * e.v.1 * e.d := Int.toNat_of_nonneg t0
  have e2 : ((e.v.2 * e.v.2).toNat : Int) = e.v.2 * e.v.2 := Int.toNat_of_nonneg (Int.le_of_lt vv)
  have i1 : (m : Int) * m * (e.v.2 * e.v.2) ≤ e.v.1 * e.v.1 * e.d := by rw [← e1, ← e2]; exact_mod_cast j1
  have i2 : e.v.1 * e.v.1 * e.d < ((m : Int) + 1) * ((m : Int) + 1) * (e.v.2 * e.v.2) := by rw [← e1, ← e2]; exact_mod_cast j2
  have hu := T.hu
  have u0' := T.u0
  have V0 : 0 < SR.c (R := T.R) e.v.2 := SR.c_pos v0
  have M0 : 0 ≤ SR.c (R := T.R) (m : Int) := SR.c_nn (by omega)
  have l1 := SR.c_le (R := T.R) i1
  have l2 := SR.c_lt (R := T.R) i2
  simp only [SR.c_mul, SR.c_add, SR.c_one] at l1 l2
  rw [← hu] at l1 l2
  -- |v|√d by n and n + 1
  have one : (0 : T.R) < 1 := Lean.Grind.OrderedRing.zero_lt_one
  have mv : 0 ≤ SR.c (R := T.R) (m : Int) * SR.c e.v.2 := SR.mn M0 (by walk_at "ln")
  have near : ∀ w : T.R, 0 ≤ w → w * w = SR.c e.v.1 * SR.c e.v.1 * (T.u * T.u) → SR.c (m : Int) * SR.c e.v.2 ≤ w ∧ w < SR.c (m : Int) * SR.c e.v.2 + SR.c e.v.2 := fun w w0 hw => by
    refine ⟨(SR.le_sq w0 (by rw [hw]; walk_at "ln")).1, (SR.lt_sq (by walk_at "ln") (by rw [hw]; walk_at "ln")).1⟩
  -- the guess below and above
  have n0 : e.u.2 * 1 ≠ 0 := by omega
  obtain ⟨n', hn'⟩ : ∃ n' : Int, n' = if 0 < e.v.1 then (nearN e : Int) else -(nearN e : Int) - 1 := ⟨_, rfl⟩
  have cr := rate_cross (t := e.u.1 * 1 + n' * e.u.2) n0
  have lp := rate_pos (t := e.u.1 * 1 + n' * e.u.2) n0
  have lo : lowF e = rateF (e.u.1 * 1 + n' * e.u.2) (e.u.2 * 1) := by rw [hn']; rfl
  have f0 : f0F e = (lowF e).1.fdiv (lowF e).2 - 1 := rfl
  rw [lo] at f0
  generalize rateF (e.u.1 * 1 + n' * e.u.2) (e.u.2 * 1) = L at cr lp f0
  rw [Int.fdiv_eq_ediv_of_nonneg _ (Int.le_of_lt lp)] at f0
  have q1 : (L.1 / L.2) * L.2 ≤ L.1 := Int.ediv_mul_le _ (by omega)
  have q2 : L.1 < (L.1 / L.2 + 1) * L.2 := Int.lt_ediv_add_one_mul_self _ lp
  generalize hk : L.1 / L.2 = k at q1 q2 f0
  have g1 : k * e.u.2 ≤ e.u.1 + n' * e.u.2 := by
    refine Int.le_of_mul_le_mul_right (a := L.2) ?_ lp
    have := Int.mul_le_mul_of_nonneg_right q1 (Int.le_of_lt u0)
    grind
  have g2 : e.u.1 + n' * e.u.2 < (k + 1) * e.u.2 := by
    refine Int.lt_of_mul_lt_mul_right (a := L.2) ?_ (Int.le_of_lt lp)
    have := Int.mul_lt_mul_of_pos_right q2 u0
    grind
  have U0 : 0 < SR.c (R := T.R) e.u.2 := SR.c_pos u0
  have G1 := SR.c_le (R := T.R) g1
  have G2 := SR.c_lt (R := T.R) g2
  rw [f0]
  rw [bas, bas, ← sgn_sgu T.u0 T.hu, ← sgn_sgu T.u0 T.hu, SR.sgn_ge_iff, SR.sgn_ge_iff]
  have A1 : 0 ≤ (SR.c e.u.1 + SR.c n' * SR.c e.u.2 - SR.c k * SR.c e.u.2) * SR.c (R := T.R) e.v.2 := SR.mn (by simp only [SR.c_mul, SR.c_add, SR.c_one] at G1; walk_at "ln") (by walk_at "ln")
  have A2 : 0 < ((SR.c k + 1) * SR.c e.u.2 - SR.c e.u.1 - SR.c n' * SR.c e.u.2) * SR.c (R := T.R) e.v.2 := SR.mp (by simp only [SR.c_mul, SR.c_add, SR.c_one] at G2; walk_at "ln") V0
  have four : SR.c (R := T.R) 4 = 1 + 1 + 1 + 1 := by
    rw [show (4 : Int) = 1 + 1 + 1 + 1 from rfl]
    simp only [SR.c_add, SR.c_one]
  simp only [SR.c_mul, SR.c_add, SR.c_sub, SR.c_one, four]
  have UV := SR.mp U0 V0
  rcases Int.lt_or_gt_of_ne hv with z | z
  · rw [if_neg (by omega), hm] at hn'
    subst hn'
    have y0 : 0 ≤ SR.c (R := T.R) (-e.v.1) * T.u := SR.mn (SR.c_nn (by omega)) u0'
    simp only [SR.c_sub, SR.c_neg, SR.c_one] at A1 A2 y0
    obtain ⟨w1, w2⟩ := near (-SR.c e.v.1 * T.u) y0 (by grind)
    have B1 : 0 ≤ (-SR.c e.v.1 * T.u - SR.c (m : Int) * SR.c e.v.2) * SR.c e.u.2 := SR.mn (by walk_at "ln") (by walk_at "ln")
    have B2 : 0 < (SR.c (m : Int) * SR.c e.v.2 + SR.c e.v.2 + SR.c e.v.1 * T.u) * SR.c e.u.2 := SR.mp (by walk_at "ln") U0
    refine ⟨by walk_at "ln", SR.lt_nle ?_⟩
    walk_at "ln"
  · rw [if_pos z, hm] at hn'
    subst hn'
    have y0 : 0 ≤ SR.c (R := T.R) e.v.1 * T.u := SR.mn (SR.c_nn (by omega)) u0'
    obtain ⟨w1, w2⟩ := near (SR.c e.v.1 * T.u) y0 (by grind)
    have B1 : 0 ≤ (SR.c e.v.1 * T.u - SR.c (m : Int) * SR.c e.v.2) * SR.c e.u.2 := SR.mn (by walk_at "ln") (by walk_at "ln")
    have B2 : 0 < (SR.c (m : Int) * SR.c e.v.2 + SR.c e.v.2 - SR.c e.v.1 * T.u) * SR.c e.u.2 := SR.mp (by walk_at "ln") U0
    refine ⟨by walk_at "ln", SR.lt_nle ?_⟩
    walk_at "ln"
theorem tw_ok {e : El} {l : Lf} (a : Rp e l) : TwOk e (flF l) := by
  by_cases hv : e.v.1 = 0
  · refine .inl ⟨hv, ?_⟩
    have q0 : l.q = 0 := by
      have := a.hv
      rw [hv, Int.zero_mul] at this
      rcases Int.mul_eq_zero.mp this.symm with h | h
      · exact h
      · have := a.v0; omega
    have u0 := a.u0
    have r0 := a.r0
    have hu := a.hu
    unfold flF
    rw [q0, show flr 0 l.d = 0 by unfold flr; simp; exact isq_uniq (by decide) (by decide), Int.add_zero, Int.fdiv_eq_ediv_of_nonneg _ (Int.le_of_lt u0), Int.fdiv_eq_ediv_of_nonneg _ (Int.le_of_lt r0)]
    rw [← Int.mul_ediv_mul_of_pos_left e.u.1 e.u.2 r0, hu, Int.mul_comm l.p, Int.mul_ediv_mul_of_pos _ _ u0]
  · refine .inr ⟨hv, ?_⟩
    obtain ⟨h1, h2⟩ := f0_near a.u0 a.v0 a.d0 hv
    rw [geE_iff a] at h1 h2
    refine ⟨(flF l - f0F e).toNat, by omega, fun j hj => ?_, ?_, by omega⟩
    · rw [geE_iff a]; omega
    · rw [geE_iff a]; omega
theorem tw_sc {x : Nm} (ok : OkN x) {f : Int} (hf : 0 < f) : TwOk (scaledF (elF x) f) (floorF (lfF x) f) := tw_ok (rp_sc (rp_el ok) hf)
theorem tw_el {x : Nm} (ok : OkN x) : TwOk (elF x) (floorF (lfF x) 1) := by
  have := tw_ok (rp_el ok)
  unfold floorF
  rw [Int.mul_one, Int.mul_one]
  exact this
theorem signF_eq (l : Lf) : signF l = sgu l.p l.q l.d := by
  unfold signF sgu
  simp only [sgB_eq, Int.mul_one]
  by_cases p : 0 < l.d
  · rw [if_pos p, show EV.b2 (decide (0 < l.d)) = 1 by simp [p, EV.b2]]
    simp only [Int.mul_one]
    by_cases a : sgi l.q = 0
    · simp [a]
    · by_cases b : sgi l.p = sgi l.q
      · simp [a, b]
      · by_cases c : sgi l.p = 0
        · have : ¬ 0 = sgi l.q := fun z => a z.symm
          simp [a, c, this]
        · simp [a, b, c]
  · rw [if_neg p, show EV.b2 (decide (0 < l.d)) = 0 by simp [p, EV.b2]]
    simp
theorem sign_tidy {l : Lf} (r0 : 0 < l.r) (d0 : 0 ≤ l.d) : signF (tidyF l) = signF l := by
  rw [signF_eq, signF_eq]
  unfold tidyF
  dsimp only
  have g0 : gcd3 l ≠ 0 := by
    unfold gcd3
    intro z
    have : Int.gcd (Int.gcd l.p l.q : Int) l.r = 0 := by omega
    have := (Int.gcd_eq_zero_iff.mp this).2
    omega
  have gp : 0 < gcd3 l := by unfold gcd3 at g0 ⊢; omega
  have d1 : gcd3 l ∣ l.p := Int.dvd_trans (Int.gcd_dvd_left ..) (Int.gcd_dvd_left ..)
  have d2 : gcd3 l ∣ l.q := Int.dvd_trans (Int.gcd_dvd_left ..) (Int.gcd_dvd_right ..)
  rw [Int.mul_one, Int.fdiv_eq_ediv_of_dvd d1, Int.fdiv_eq_ediv_of_dvd d2, ← sgu_scale d0 gp, Int.mul_ediv_cancel' d1, Int.mul_ediv_cancel' d2]
theorem sign_tidy' {p q r d : Int} (r0 : 0 < r) (d0 : 0 ≤ d) : signF (tidyF ⟨p, q, r, d⟩) = sgu p q d := by
  rw [sign_tidy (show 0 < (⟨p, q, r, d⟩ : Lf).r from r0) d0, signF_eq]
/-- as good as nothing -/
theorem z_mul {R : Type} [PR R] {k : R} (x : R) (h : 0 ≤ k) (h' : k ≤ 0) : 0 ≤ x * k ∧ x * k ≤ 0 := by
  rcases SR.lt_or_le 0 x with z | z
  · have b1 := SR.mn (x := x) (y := k) (by walk_at "ln") h
    have b2 := SR.mn (x := x) (y := -k) (by walk_at "ln") (by walk_at "ln")
    exact ⟨b1, by walk_at "ln"⟩
  · have b1 := SR.mn (x := -x) (y := k) (by walk_at "ln") h
    have b2 := SR.mn (x := -x) (y := -k) (by walk_at "ln") (by walk_at "ln")
    exact ⟨by walk_at "ln", by walk_at "ln"⟩
theorem sgn_add_zero {R : Type} [PR R] {x k : R} (h : 0 ≤ k ∧ k ≤ 0) : sgn (x + k) = sgn x := by
  obtain ⟨h1, h2⟩ := h
  rcases SR.sgn_cases x with ⟨a, e⟩ | ⟨⟨a, a'⟩, e⟩ | ⟨a, e⟩ <;> rw [e]
  · exact SR.sgn_pos (by walk_at "ln")
  · exact SR.sgn_zero (by walk_at "ln") (by walk_at "ln")
  · exact SR.sgn_neg (by walk_at "ln")
/-- a fraction, or a number with a root -/
structure Fd2 (l : Lf) : Prop where
  r0 : 0 < l.r
  dq : (l.d = 0 ∧ l.q = 0) ∨ (0 < l.d ∧ l.q ≠ 0)
theorem Fd2.d0 {l : Lf} (a : Fd2 l) : 0 ≤ l.d := by rcases a.dq with z | z <;> omega
theorem fd2_ok {x : Nm} (ok : OkN x) : Fd2 (lfF x) := by
  cases x with
  | fr t b => exact ⟨ok.2.2.1, .inl ⟨rfl, rfl⟩⟩
  | rt a b c s =>
    obtain ⟨h1, h2, h3, h4, h5, h6, h7, h8⟩ := ok
    exact ⟨by show 0 < 2 * a; omega, .inr ⟨h7, by show s ≠ 0; omega⟩⟩
theorem fd2_fr {t b : Int} (h : 0 < b) : Fd2 ⟨t, 0, b, 0⟩ := ⟨h, .inl ⟨rfl, rfl⟩⟩
theorem sqB_eq {x : Int} (h : sqB x = true) : (isq x.toNat : Int) * (isq x.toNat : Int) = x := by
  unfold sqB at h
  have := of_decide_eq_true h
  rwa [show (2 : Int).toNat = 2 from rfl, Int.pow_succ, Int.pow_succ, Int.pow_zero, Int.one_mul] at this
theorem same_cmp {l g : Lf} (a : Fd2 l) (b : Fd2 g) (h : sameB l g = true) : signF (sumF l (minusF g)) = cmpF l g := by
  have ar := a.r0
  have br := b.r0
  have a0 := a.d0
  have b0 := b.d0
  have rr := Int.mul_pos ar br
  unfold sumF
  dsimp only
  rcases a.dq with ⟨a1, a2⟩ | ⟨a1, a2⟩
  · have e1 : dF l (minusF g) = g.d := by unfold dF; rw [if_neg (by simp [a1])]; rfl
    have e2 : brF l g.d = ⟨l.p, l.q, l.r, g.d⟩ := by unfold brF; rw [if_pos (.inl a1)]
    have e3 : brF (minusF g) g.d = ⟨-g.p, -g.q, g.r, g.d⟩ := by unfold brF minusF; rw [if_pos (.inr rfl)]
    rw [e1, e2, e3]
    dsimp only
    rw [sign_tidy' rr b0]
    unfold cmpF
    rw [a2, Int.zero_mul, s4_s0 a0 b0, Int.zero_add, Int.neg_mul, ← Int.sub_eq_add_neg]
  · have ad : l.d ≠ 0 := by omega
    have e1 : dF l (minusF g) = l.d := by unfold dF; rw [if_pos ad]
    have e2 : brF l l.d = ⟨l.p, l.q, l.r, l.d⟩ := by unfold brF; rw [if_pos (.inr rfl)]
    rw [e1, e2]
    by_cases gd : g.d = 0 ∨ g.d = l.d
    · have e3 : brF (minusF g) l.d = ⟨-g.p, -g.q, g.r, l.d⟩ := by unfold brF; rw [if_pos (by exact gd)]; rfl
      rw [e3]
      dsimp only
      rw [sign_tidy' rr a0]
      unfold cmpF
      rcases b.dq with ⟨b1, b2⟩ | ⟨b1, b2⟩
      · rw [b2, Int.neg_zero, Int.zero_mul, s4_t0, Int.add_zero, Int.neg_mul, ← Int.sub_eq_add_neg]
      · have gd : g.d = l.d := by omega
        rw [gd]
        obtain ⟨T⟩ := SR.rt a0 a0
        rw [← sgn_s4 T, ← sgn_sgu T.u0 T.hu]
        have hu := T.hu
        have hv := T.hv
        have v1 := (SR.le_sq T.u0 (x := T.v) (by rw [hv, hu]; walk_at "ln")).1
        have v2 := (SR.le_sq T.v0 (x := T.u) (by rw [hv, hu]; walk_at "ln")).1
        have vu : ∀ t : Int, sgn (SR.c (R := T.R) (l.p * g.r + -g.p * l.r) + SR.c (l.q * g.r + -g.q * l.r) * T.u) = sgn (SR.c (l.p * g.r - g.p * l.r) + SR.c (l.q * g.r) * T.u + SR.c (-g.q * l.r) * T.v) := fun t => by
          have k : (SR.c (R := T.R) (l.p * g.r - g.p * l.r) + SR.c (l.q * g.r) * T.u + SR.c (-g.q * l.r) * T.v) = (SR.c (l.p * g.r + -g.p * l.r) + SR.c (l.q * g.r + -g.q * l.r) * T.u) + SR.c (-g.q * l.r) * (T.v - T.u) := by
            simp only [SR.c_add, SR.c_sub, SR.c_neg, SR.c_mul]
            grind
          rw [k]
          exact (sgn_add_zero (z_mul _ (show 0 ≤ T.v - T.u by walk_at "ln") (by walk_at "ln"))).symm
        exact vu 0
    · have gd0 : g.d ≠ 0 := fun z => gd (.inl z)
      have b1 : 0 < g.d ∧ g.q ≠ 0 := by
        rcases b.dq with ⟨b1, b2⟩ | z
        · exact absurd b1 gd0
        · exact z
      have sq : sqB (l.d * g.d) = true := by
        unfold sameB fieldB at h
        simpa [ad, gd0, a2, b1.2] using h
      have sq := sqB_eq sq
      rw [Int.mul_comm l.d] at sq
      have e3 : brF (minusF g) l.d = ⟨-g.p * l.d, -g.q * (isq (g.d * l.d).toNat : Int), g.r * l.d, l.d⟩ := by
        unfold brF
        rw [if_neg (by exact gd)]; rfl
      rw [e3]
      dsimp only
      generalize isq (g.d * l.d).toNat = w at sq
      rw [sign_tidy' (Int.mul_pos ar (Int.mul_pos br a1)) a0]
      unfold cmpF
      rw [← s4_scale a0 b0 a1]
      obtain ⟨T⟩ := SR.rt a0 b0
      rw [← sgn_s4 T, ← sgn_sgu T.u0 T.hu]
      have hu := T.hu
      have hv := T.hv
      have sq' : SR.c (R := T.R) (w : Int) * SR.c (w : Int) = SR.c g.d * SR.c l.d := by rw [← SR.c_mul, sq, SR.c_mul]
      have n1 : 0 ≤ SR.c (R := T.R) l.d * T.v := SR.mn (SR.c_nn a0) T.v0
      have n2 : 0 ≤ SR.c (R := T.R) (w : Int) * T.u := SR.mn (SR.c_nn (by omega)) T.u0
      have eq : (SR.c (R := T.R) l.d * T.v) * (SR.c l.d * T.v) = (SR.c (w : Int) * T.u) * (SR.c (w : Int) * T.u) := by grind
      have v1 := (SR.le_sq n2 (x := SR.c (R := T.R) l.d * T.v) (by rw [eq]; walk_at "ln")).1
      have v2 := (SR.le_sq n1 (x := SR.c (R := T.R) (w : Int) * T.u) (by rw [eq]; walk_at "ln")).1
      have k : (SR.c (R := T.R) (l.d * (l.p * g.r - g.p * l.r)) + SR.c (l.d * (l.q * g.r)) * T.u + SR.c (l.d * (-g.q * l.r)) * T.v) = (SR.c (l.p * (g.r * l.d) + -g.p * l.d * l.r) + SR.c (l.q * (g.r * l.d) + -g.q * (w : Int) * l.r) * T.u) + SR.c (-g.q * l.r) * (SR.c l.d * T.v - SR.c (w : Int) * T.u) := by
        simp only [SR.c_add, SR.c_sub, SR.c_neg, SR.c_mul]
        grind
      rw [k]
      exact (sgn_add_zero (z_mul _ (show 0 ≤ SR.c (R := T.R) l.d * T.v - SR.c (w : Int) * T.u by walk_at "ln") (by walk_at "ln"))).symm
/-- turned about -/
theorem cmp_swap {l g : Lf} (a : 0 ≤ l.d) (b : 0 ≤ g.d) : cmpF g l = -cmpF l g := by
  unfold cmpF
  rw [s4_swap b a, ← s4_neg a b]
  congr 1 <;> grind
theorem s4_val (f s t r o : Int) (hr : 0 ≤ r) (ho : 0 ≤ o) : s4 f s t r o = 1 ∨ s4 f s t r o = 0 ∨ s4 f s t r o = -1 := by
  obtain ⟨T⟩ := SR.rt hr ho
  rw [← sgn_s4 T]
  rcases SR.sgn_cases (SR.c f + SR.c s * T.u + SR.c t * T.v : T.R) with h | h | h
  · exact .inl h.2
  · exact .inr (.inl h.2)
  · exact .inr (.inr h.2)
theorem sgi_zero {i : Int} (h : sgi i = 0) : i = 0 := by
  unfold sgi at h
  split at h
  · assumption
  · split at h <;> omega
/-- a square times what is a square -/
theorem sq_of {c w k : Int} (hc : c ≠ 0) (hk : 0 ≤ k) (h : c * c * k = w * w) : isq k.toNat * isq k.toNat = k.toNat := by
  obtain ⟨K, rfl⟩ := Int.eq_ofNat_of_zero_le hk
  have e : c.natAbs * c.natAbs * K = w.natAbs * w.natAbs := by
    have := congrArg Int.natAbs h
    simpa only [Int.natAbs_mul, Int.natAbs_natCast] using this
  have dv : c.natAbs ^ 2 ∣ w.natAbs ^ 2 := ⟨K, by rw [Nat.pow_two, Nat.pow_two]; exact e.symm⟩
  obtain ⟨x, hx⟩ := (Nat.pow_dvd_pow_iff (by decide)).mp dv
  have c0 : 0 < c.natAbs := by omega
  have ek : K = x * x := by
    rw [hx] at e
    have : c.natAbs * c.natAbs * K = c.natAbs * c.natAbs * (x * x) := by rw [e]; grind
    exact Nat.eq_of_mul_eq_mul_left (Nat.mul_pos c0 c0) this
  show isq K * isq K = K
  rw [isq_uniq (n := K) (r := x) (by omega) (by rw [ek]; grind), ek]
/-- roots of unlike fields: never alike -/
theorem unlike_ne {f s t r o : Int} (hr : 0 < r) (ho : 0 < o) (hs : s ≠ 0) (ht : t ≠ 0) (nr : isq r.toNat * isq r.toNat ≠ r.toNat) (nro : isq (r * o).toNat * isq (r * o).toNat ≠ (r * o).toNat) : s4 f s t r o ≠ 0 := by
  intro z
  obtain ⟨T⟩ := SR.rt (Int.le_of_lt hr) (Int.le_of_lt ho)
  rw [← sgn_s4 T] at z
  have hu := T.hu
  have hv := T.hv
  have p1 : sgn (SR.c (f * f + s * s * r - t * t * o) + SR.c (2 * (f * s)) * T.u) = 0 := by
    have e : (SR.c (f * f + s * s * r - t * t * o) + SR.c (2 * (f * s)) * T.u : T.R) = (SR.c f + SR.c s * T.u + SR.c t * T.v) * (SR.c f + SR.c s * T.u - SR.c t * T.v) := by
      rw [show 2 * (f * s) = f * s + f * s by omega]
      simp only [SR.c_add, SR.c_sub, SR.c_mul]
      grind
    rw [e, SR.sgn_mul, z, Int.zero_mul]
  generalize ha : f * f + s * s * r - t * t * o = a at p1
  generalize hb : 2 * (f * s) = b at p1
  have p2 : sgn (SR.c (R := T.R) (a * a - b * b * r)) = 0 := by
    have e : (SR.c (a * a - b * b * r) : T.R) = (SR.c a + SR.c b * T.u) * (SR.c a - SR.c b * T.u) := by
      simp only [SR.c_add, SR.c_sub, SR.c_mul]
      grind
    rw [e, SR.sgn_mul, p1, Int.zero_mul]
  rw [ci] at p2
  have p3 := sgi_zero p2
  by_cases b0 : b = 0
  · rw [b0, Int.mul_zero, Int.zero_mul, Int.sub_zero] at p3
    have a0 : a = 0 := by rcases Int.mul_eq_zero.mp p3 with h | h <;> exact h
    have f0 : f = 0 := by
      rw [b0] at hb
      rcases Int.mul_eq_zero.mp hb with h | h
      · omega
      · rcases Int.mul_eq_zero.mp h with h | h
        · exact h
        · exact absurd h hs
    rw [f0, a0, Int.zero_mul, Int.zero_add] at ha
    refine nro (sq_of (c := s) (w := t * o) hs (Int.mul_nonneg (Int.le_of_lt hr) (Int.le_of_lt ho)) ?_)
    grind
  · exact nr (sq_of (c := b) (w := a) b0 (Int.le_of_lt hr) (by omega))
/-! ### how near they can be -/
theorem gap_step {R : Type} [PR R] {x y w q K M : R} (w0 : 0 ≤ w) (hw : w * w = q) (K0 : 0 ≤ K) (M1 : 1 ≤ M) (z0 : 0 < x + y * w) (l1 : x - y * w ≤ M) (l2 : -(x - y * w) ≤ M)
    (H1 : 0 < x * x - y * y * q → 1 ≤ (x * x - y * y * q) * K) (H2 : 0 < -(x * x - y * y * q) → 1 ≤ -(x * x - y * y * q) * K) (H3 : 0 < x + x → 1 ≤ (x + x) * K) : 1 ≤ (x + y * w) * (M * K) := by
  have N : x * x - y * y * q = (x + y * w) * (x - y * w) := by rw [← hw]; grind
  rw [N] at H1 H2
  generalize hz : x - y * w = zc at l1 l2 H1 H2
  have xx : x + x = (x + y * w) + zc := by rw [← hz]; grind
  rw [xx] at H3
  generalize x + y * w = z at z0 H1 H2 H3
  have one : (0 : R) < 1 := Lean.Grind.OrderedRing.zero_lt_one
  rcases SR.lt_or_le 0 zc with p | p
  · have h1 := H1 (SR.mp z0 p)
    have h2 : 0 ≤ z * (K * (M - zc)) := SR.mn (by walk_at "ln") (SR.mn K0 (by walk_at "ln"))
    walk_at "ln"
  · rcases SR.lt_or_le zc 0 with p' | p'
    · have h1 := H2 (by have := SR.mp z0 (show 0 < -zc by walk_at "ln"); walk_at "ln")
      have h2 : 0 ≤ z * (K * (M + zc)) := SR.mn (by walk_at "ln") (SR.mn K0 (by walk_at "ln"))
      walk_at "ln"
    · have h1 := H3 (by walk_at "ln")
      have h2 := z_mul K p' p
      have h3 : 0 ≤ z * (K * (M - 1)) := SR.mn (by walk_at "ln") (SR.mn K0 (by walk_at "ln"))
      walk_at "ln"
theorem c_abs {R : Type} [PR R] {i : Int} {k : Nat} (h : Bd k i) : SR.c (R := R) i ≤ SR.c (2 ^ k : Int) ∧ -SR.c (2 ^ k : Int) ≤ SR.c (R := R) i := by
  have e : ((2 ^ k : Nat) : Int) = (2 : Int) ^ k := by rw [Int.natCast_pow]; rfl
  have h' : i.natAbs < 2 ^ k := h
  have l1 : i ≤ (2 : Int) ^ k := by omega
  have l2 : -(2 : Int) ^ k ≤ i := by omega
  refine ⟨SR.c_le l1, ?_⟩
  have := SR.c_le (R := R) l2
  rwa [SR.c_neg] at this
theorem c_pw {R : Type} [PR R] (a b : Nat) : SR.c (R := R) (2 ^ a : Int) * SR.c (2 ^ b : Int) = SR.c (2 ^ (a + b) : Int) := by rw [← SR.c_mul, Int.pow_add]
theorem c_pw0 {R : Type} [PR R] (a : Nat) : 0 < SR.c (R := R) (2 ^ a : Int) := SR.c_pos (Int.pow_pos (by decide))
theorem c_pwle {R : Type} [PR R] {a b : Nat} (h : a ≤ b) : SR.c (R := R) (2 ^ a : Int) ≤ SR.c (2 ^ b : Int) := by
  refine SR.c_le ?_
  have : (2 : Nat) ^ a ≤ 2 ^ b := Nat.pow_le_pow_right (by decide) h
  exact_mod_cast this
theorem c_pwd {R : Type} [PR R] (a : Nat) : SR.c (R := R) (2 ^ (a + 1) : Int) = SR.c (2 ^ a : Int) + SR.c (2 ^ a : Int) := by
  rw [← SR.c_add]
  congr 1
  rw [Int.pow_succ]; omega
/-- a root's bound -/
theorem u_bd {R : Type} [PR R] {w : R} {r : Int} {k : Nat} (w0 : 0 ≤ w) (hw : w * w = SR.c r) (h : Bd (k + k) r) : w ≤ SR.c (2 ^ k : Int) := by
  refine (SR.le_sq (by have := c_pw0 (R := R) k; walk_at "ln") ?_).1
  rw [hw, c_pw]
  exact (c_abs h).1
theorem cu_bd {R : Type} [PR R] {w : R} {i : Int} {k m : Nat} (w0 : 0 ≤ w) (h : w ≤ SR.c (2 ^ k : Int)) (hi : Bd m i) : SR.c i * w ≤ SR.c (2 ^ (m + k) : Int) ∧ -SR.c (2 ^ (m + k) : Int) ≤ SR.c i * w := by
  obtain ⟨a, b⟩ := c_abs (R := R) hi
  have p := c_pw0 (R := R) m
  have q := c_pw (R := R) m k
  have h1 : 0 ≤ SR.c (R := R) (2 ^ m : Int) * (SR.c (2 ^ k : Int) - w) := SR.mn (by walk_at "ln") (by walk_at "ln")
  have h2 : 0 ≤ (SR.c (R := R) (2 ^ m : Int) - SR.c i) * w := SR.mn (by walk_at "ln") w0
  have h3 : 0 ≤ (SR.c (R := R) (2 ^ m : Int) + SR.c i) * w := SR.mn (by walk_at "ln") w0
  exact ⟨by walk_at "ln", by walk_at "ln"⟩
theorem gap1 {R : Type} [PR R] {w : R} {a b r : Int} (w0 : 0 ≤ w) (hw : w * w = SR.c r) (hr : Bd 54 r) (ha : Bd 107 a) (hb : Bd 79 b) (h : 0 < SR.c a + SR.c b * w) : 1 ≤ (SR.c a + SR.c b * w) * SR.c (2 ^ 108 : Int) := by
  have hu := u_bd (k := 27) w0 hw hr
  obtain ⟨b1, b2⟩ := cu_bd (m := 79) w0 hu hb
  obtain ⟨a1, a2⟩ := c_abs (R := R) ha
  have s1 := c_pwle (R := R) (a := 79 + 27) (b := 107) (by decide)
  have s2 := c_pwd (R := R) 107
  have one : (0 : R) < 1 := Lean.Grind.OrderedRing.zero_lt_one
  have ge1 : ∀ {i : Int}, 0 < i → 1 ≤ SR.c (R := R) i := fun {i} hi => by
    have := SR.c_le (R := R) (show 1 ≤ i by omega)
    rwa [SR.c_one] at this
  have m1 : 1 ≤ SR.c (R := R) (2 ^ 108 : Int) := ge1 (Int.pow_pos (by decide))
  have e : SR.c a * SR.c a - SR.c b * SR.c b * SR.c r = SR.c (R := R) (a * a - b * b * r) := by simp only [SR.c_sub, SR.c_mul]
  have := gap_step (x := SR.c (R := R) a) (y := SR.c b) (q := SR.c r) (K := 1) (M := SR.c (2 ^ 108 : Int)) w0 hw (by walk_at "ln") m1 h (by walk_at "ln") (by walk_at "ln") (fun k => by
    rw [e] at k ⊢
    have := ge1 (cpos.mp k)
    walk_at "ln") (fun k => by
    rw [e, ← SR.c_neg] at k ⊢
    have := ge1 (cpos.mp k)
    walk_at "ln") (fun k => by
    rw [← SR.c_add] at k ⊢
    have := ge1 (cpos.mp k)
    walk_at "ln")
  walk_at "ln"
theorem gap2 {r o : Int} (T : RT r o) {f s t : Int} (r0 : 0 ≤ r) (o0 : 0 ≤ o) (hr : Bd 53 r) (ho : Bd 53 o) (hf : Bd 52 f) (hs : Bd 26 s) (ht : Bd 26 t) (h : 0 < SR.c f + SR.c s * T.u + SR.c t * T.v) : 1 ≤ (SR.c f + SR.c s * T.u + SR.c t * T.v) * SR.c (2 ^ 163 : Int) := by
  have u1 := u_bd (k := 27) T.u0 T.hu (bdW hr rfl)
  have v1 := u_bd (k := 27) T.v0 T.hv (bdW ho rfl)
  obtain ⟨b1, b2⟩ := cu_bd (m := 26) T.u0 u1 hs
  obtain ⟨d1, d2⟩ := cu_bd (m := 26) T.v0 v1 ht
  obtain ⟨a1, a2⟩ := c_abs (R := T.R) hf
  have s1 := c_pwd (R := T.R) 52
  have s2 := c_pwd (R := T.R) 53
  have s3 := c_pwd (R := T.R) 54
  have p52 := c_pw0 (R := T.R) 52
  have one : (0 : T.R) < 1 := Lean.Grind.OrderedRing.zero_lt_one
  have m1 : 1 ≤ SR.c (R := T.R) (2 ^ 55 : Int) := by
    have := SR.c_le (R := T.R) (show (1 : Int) ≤ 2 ^ 55 by decide)
    rwa [SR.c_one] at this
  have hu := T.hu
  have k0 := c_pw0 (R := T.R) 108
  have b1107 : Bd 107 (f * f + s * s * r - t * t * o) := by walk_at "bw"
  have b279 : Bd 79 (f * s + f * s) := by walk_at "bw"
  have n1 : (SR.c f + SR.c s * T.u) * (SR.c f + SR.c s * T.u) - SR.c t * SR.c t * SR.c o = SR.c (R := T.R) (f * f + s * s * r - t * t * o) + SR.c (f * s + f * s) * T.u := by
    simp only [SR.c_add, SR.c_sub, SR.c_mul]
    grind
  have := gap_step (x := SR.c (R := T.R) f + SR.c s * T.u) (y := SR.c t) (q := SR.c o) (K := SR.c (2 ^ 108 : Int)) (M := SR.c (2 ^ 55 : Int)) T.v0 T.hv (by walk_at "ln") m1 h (by walk_at "ln") (by walk_at "ln") (fun k => by
    rw [n1] at k ⊢
    exact gap1 T.u0 T.hu (bdW hr rfl) b1107 b279 k) (fun k => by
    have e : -(SR.c (R := T.R) (f * f + s * s * r - t * t * o) + SR.c (f * s + f * s) * T.u) = SR.c (-(f * f + s * s * r - t * t * o)) + SR.c (-(f * s + f * s)) * T.u := by
      simp only [SR.c_neg]
      grind
    rw [n1, e] at k ⊢
    exact gap1 T.u0 T.hu (bdW hr rfl) (bdNeg b1107) (bdNeg b279) k) (fun k => by
    have e : (SR.c (R := T.R) f + SR.c s * T.u) + (SR.c (R := T.R) f + SR.c s * T.u) = SR.c (f + f) + SR.c (s + s) * T.u := by
      simp only [SR.c_add]
      grind
    rw [e] at k ⊢
    exact gap1 T.u0 T.hu (bdW hr rfl) (by walk_at "bw") (by walk_at "bw") k)
  rw [c_pw] at this
  exact this
theorem le_floorF {R : Type} [PR R] {w : R} {l : Lf} (a : Fd2 l) (w0 : 0 ≤ w) (hw : w * w = SR.c l.d) (N k : Int) : k ≤ floorF l N ↔ SR.c k * SR.c l.r ≤ (SR.c l.p + SR.c l.q * w) * SR.c N := by
  have r0 := a.r0
  have h1 : k ≤ floorF l N ↔ 0 ≤ l.p * N - k * l.r + flr (l.q * N) l.d := by
    unfold floorF
    rw [Int.fdiv_eq_ediv_of_nonneg _ (Int.le_of_lt r0), Int.le_ediv_iff_mul_le r0]
    constructor <;> intro h <;> omega
  rw [h1, ← fl_iff a.d0, ← sgn_sgu w0 hw, SR.sgn_ge_iff]
  simp only [SR.c_sub, SR.c_mul]
  constructor <;> intro h <;> walk_at "ln"
theorem cmp_ring {l g : Lf} (T : RT l.d g.d) : cmpF l g = sgn ((SR.c l.p + SR.c l.q * T.u) * SR.c g.r - (SR.c g.p + SR.c g.q * T.v) * SR.c l.r) := by
  unfold cmpF
  rw [← sgn_s4 T]
  congr 1
  simp only [SR.c_sub, SR.c_mul, SR.c_neg]
  grind
theorem floor_cmp {l g : Lf} (a : Fd2 l) (b : Fd2 g) {N : Int} (hN : 0 < N) (h : floorF l N < floorF g N) : cmpF l g = -1 := by
  obtain ⟨T⟩ := SR.rt a.d0 b.d0
  rw [cmp_ring T]
  refine SR.sgn_neg ?_
  have h1 : SR.c (floorF l N + 1) * SR.c g.r ≤ (SR.c g.p + SR.c g.q * T.v) * SR.c (R := T.R) N := (le_floorF b T.v0 T.hv N _).mp (by omega)
  have h2 : (SR.c l.p + SR.c l.q * T.u) * SR.c (R := T.R) N < SR.c (floorF l N + 1) * SR.c l.r := SR.nle fun k => by
    have := (le_floorF a T.u0 T.hu N (floorF l N + 1)).mpr k
    omega
  have cr := SR.c_pos (R := T.R) a.r0
  have cr' := SR.c_pos (R := T.R) b.r0
  have cN := SR.c_pos (R := T.R) hN
  have m1 : 0 < (SR.c (floorF l N + 1) * SR.c l.r - (SR.c l.p + SR.c l.q * T.u) * SR.c N) * SR.c (R := T.R) g.r := SR.mp (by walk_at "ln") cr'
  have m2 : 0 ≤ ((SR.c g.p + SR.c g.q * T.v) * SR.c N - SR.c (floorF l N + 1) * SR.c g.r) * SR.c (R := T.R) l.r := SR.mn (by walk_at "ln") (by walk_at "ln")
  have := SR.can (x := (SR.c g.p + SR.c g.q * T.v) * SR.c l.r - (SR.c l.p + SR.c l.q * T.u) * SR.c (R := T.R) g.r) (y := SR.c N) (by walk_at "ln") (by walk_at "ln")
  walk_at "ln"
/-- the law's own sizes -/
structure Sz (l : Lf) : Prop where
  p : Bd 25 l.p
  q : Bd 1 l.q
  r : Bd 26 l.r
  d : Bd 53 l.d
theorem sz_ok {x : Nm} (ok : OkN x) : Sz (lfF x) := by
  cases x with
  | fr t b => exact ⟨ok.1, bd0, bdW ok.2.1 rfl, bdW bd0 rfl⟩
  | rt a b c s =>
    obtain ⟨h1, h2, h3, h4, h5, h6, h7, h8⟩ := ok
    refine ⟨bdNeg h2, show Bd 1 s by rcases h5 with z | z <;> subst z <;> decide, ?_, ?_⟩
    · show (2 * a).natAbs < 2 ^ 26
      have : a.natAbs < 2 ^ 25 := h1
      omega
    · have e1 : (b * b).natAbs < 2 ^ 50 := bdMul h2 h2
      have e2 : (a * c).natAbs < 2 ^ 50 := bdMul h1 h3
      have e3 : 4 * a * c = 4 * (a * c) := Int.mul_assoc ..
      show (b * b - 4 * a * c).natAbs < 2 ^ 53
      rw [e3]
      omega
theorem fd_gap {l g : Lf} (a : Fd2 l) (b : Fd2 g) (sa : Sz l) (sb : Sz g) (T : RT l.d g.d) (h : cmpF l g = -1) : 1 ≤ ((SR.c g.p + SR.c g.q * T.v) * SR.c l.r - (SR.c l.p + SR.c l.q * T.u) * SR.c g.r) * SR.c (2 ^ 163 : Int) := by
  have e : (SR.c g.p + SR.c g.q * T.v) * SR.c l.r - (SR.c l.p + SR.c l.q * T.u) * SR.c (R := T.R) g.r = SR.c (g.p * l.r - l.p * g.r) + SR.c (-l.q * g.r) * T.u + SR.c (g.q * l.r) * T.v := by
    simp only [SR.c_sub, SR.c_mul, SR.c_neg]
    grind
  rw [cmp_ring T] at h
  have hl := SR.sgn_lt_iff.mp (show sgn ((SR.c l.p + SR.c l.q * T.u) * SR.c g.r - (SR.c g.p + SR.c g.q * T.v) * SR.c (R := T.R) l.r) < 0 by omega)
  have z0 : 0 < (SR.c g.p + SR.c g.q * T.v) * SR.c l.r - (SR.c l.p + SR.c l.q * T.u) * SR.c (R := T.R) g.r := by walk_at "ln"
  rw [e] at z0 ⊢
  have b1 := sa.p
  have b2 := sa.q
  have b3 := sa.r
  have b4 := sb.p
  have b5 := sb.q
  have b6 := sb.r
  have q1 : Bd 26 (l.q * g.r) := by
    have e : l.q = 1 ∨ l.q = 0 ∨ l.q = -1 := by have : l.q.natAbs < 2 ^ 1 := b2; omega
    rcases e with z | z | z <;> rw [z]
    · rwa [Int.one_mul]
    · rw [Int.zero_mul]; exact bdW bd0 rfl
    · rw [Int.neg_mul, Int.one_mul]; exact bdNeg b6
  have q2 : Bd 26 (g.q * l.r) := by
    have e : g.q = 1 ∨ g.q = 0 ∨ g.q = -1 := by have : g.q.natAbs < 2 ^ 1 := b5; omega
    rcases e with z | z | z <;> rw [z]
    · rwa [Int.one_mul]
    · rw [Int.zero_mul]; exact bdW bd0 rfl
    · rw [Int.neg_mul, Int.one_mul]; exact bdNeg b3
  refine gap2 T a.d0 b.d0 sa.d sb.d (by walk_at "bw") (by rw [Int.neg_mul]; exact bdNeg q1) q2 z0
theorem rr_bd {l g : Lf} (sa : Sz l) (sb : Sz g) (a : Fd2 l) (b : Fd2 g) : 2 ^ 163 * (2 * (l.r * g.r)) ≤ (2 : Int) ^ 530 := by
  have h1 : Bd 52 (l.r * g.r) := bdMul sa.r sb.r
  have h2 : (l.r * g.r).natAbs < 2 ^ 52 := h1
  have h3 : (2 : Int) ^ 163 * (2 * (l.r * g.r)) ≤ 2 ^ 163 * 2 ^ 53 := Int.mul_le_mul_of_nonneg_left (by omega) (Int.le_of_lt (Int.pow_pos (by decide)))
  exact Int.le_trans h3 (by decide +kernel)
/-- far enough apart, so finely looked at -/
theorem far {l g : Lf} (a : Fd2 l) (b : Fd2 g) (sa : Sz l) (sb : Sz g) (T : RT l.d g.d) (h : cmpF l g = -1) : SR.c (floorF l (2 ^ 530) + 1) * SR.c g.r + SR.c g.r ≤ (SR.c g.p + SR.c g.q * T.v) * SR.c (R := T.R) (2 ^ 530 : Int) := by
  have gp := fd_gap a b sa sb T h
  have Gp := c_pw0 (R := T.R) 163
  have h0 : SR.c (floorF l (2 ^ 530)) * SR.c l.r ≤ (SR.c l.p + SR.c l.q * T.u) * SR.c (R := T.R) (2 ^ 530 : Int) := (le_floorF a T.u0 T.hu _ _).mp (Int.le_refl _)
  have nb := SR.c_le (R := T.R) (rr_bd sa sb a b)
  have cr := SR.c_pos (R := T.R) a.r0
  have cr' := SR.c_pos (R := T.R) b.r0
  have two : SR.c (R := T.R) 2 = 1 + 1 := by
    rw [show (2 : Int) = 1 + 1 from rfl]
    simp only [SR.c_add, SR.c_one]
  rw [SR.c_mul, SR.c_mul, SR.c_mul, two] at nb
  rw [SR.c_add, SR.c_one]
  generalize SR.c (R := T.R) (2 ^ 530 : Int) = N at *
  generalize SR.c (R := T.R) (2 ^ 163 : Int) = G at *
  generalize SR.c (R := T.R) (floorF l (2 ^ 530)) = m at *
  generalize SR.c (R := T.R) l.p + SR.c l.q * T.u = X at *
  generalize SR.c (R := T.R) g.p + SR.c g.q * T.v = Y at *
  generalize SR.c (R := T.R) l.r = r at *
  generalize SR.c (R := T.R) g.r = r' at *
  have one : (0 : T.R) < 1 := Lean.Grind.OrderedRing.zero_lt_one
  have z0 := SR.can (x := Y * r - X * r') (y := G) (by walk_at "ln") (by walk_at "ln")
  have p1 : 0 ≤ (Y * r - X * r') * (N - G * ((1 + 1) * (r * r'))) := SR.mn (by walk_at "ln") (by walk_at "ln")
  have p2 : 0 ≤ ((Y * r - X * r') * G - 1) * (r * r' + r * r') := SR.mn (by walk_at "ln") (by have := SR.mp cr cr'; walk_at "ln")
  have p3 : 0 ≤ (X * N - m * r) * r' := SR.mn (by walk_at "ln") (by walk_at "ln")
  have := SR.can0 (x := Y * N - (m + 1) * r' - r') cr (by walk_at "ln")
  walk_at "ln"
theorem least {P : Nat → Prop} : ∀ n, P n → ∃ i, i ≤ n ∧ P i ∧ ∀ j, j < i → ¬ P j
  | n, h => by
    by_cases k : ∃ j, j < n ∧ P j
    · obtain ⟨j, hj, pj⟩ := k
      obtain ⟨i, h1, h2, h3⟩ := least j pj
      exact ⟨i, by omega, h2, h3⟩
    · exact ⟨n, Nat.le_refl n, h, fun j hj pj => k ⟨j, hj, pj⟩⟩
theorem far_floor {l g : Lf} (a : Fd2 l) (b : Fd2 g) (sa : Sz l) (sb : Sz g) (h : cmpF l g = -1) : floorF l (2 ^ 530) < floorF g (2 ^ 530) := by
  obtain ⟨T⟩ := SR.rt a.d0 b.d0
  have f := far a b sa sb T h
  have cr' := SR.c_pos (R := T.R) b.r0
  have := (le_floorF b T.v0 T.hv (2 ^ 530) (floorF l (2 ^ 530) + 1)).mpr (by walk_at "ln")
  omega
theorem BL_ok {x : Nm} (ok : OkN x) : BL 60 (lfF x) := by
  have s := sz_ok ok
  have f := fd2_ok ok
  exact ⟨bdW s.p rfl, bdW s.q rfl, bdW s.r rfl, bdW s.d rfl, f.r0, f.d0⟩
/-- the law's compare -/
theorem e47 {W n : Nat} {x y : Nm} (ok : OkN x) (ok' : OkN y) (hW : 2 ^ 8000 ≤ W) (h : Hh) : evN (PW W) (n + 5) true 47 [IL (lfF x), IL (lfF y)] h = .ok (.int (cmpF (lfF x) (lfF y))) h := by
  have a := fd2_ok ok
  have b := fd2_ok ok'
  by_cases hs : sameB (lfF x) (lfF y) = true
  · rw [← same_cmp a b hs]
    exact e47s (BL_ok ok) (BL_ok ok') hW hs h
  · have hs : sameB (lfF x) (lfF y) = false := by simpa using hs
    -- unlike
    have ne : cmpF (lfF x) (lfF y) ≠ 0 := by
      cases x with
      | fr t b => exact absurd hs (by unfold sameB fieldB lfF; simp)
      | rt a1 b1 c1 s1 =>
        cases y with
        | fr t b => exact absurd hs (by unfold sameB fieldB lfF; simp)
        | rt a2 b2 c2 s2 =>
          obtain ⟨h1, h2, h3, h4, h5, h6, h7, h8⟩ := ok
          obtain ⟨k1, k2, k3, k4, k5, k6, k7, k8⟩ := ok'
          have sq : sqB ((lfF (.rt a1 b1 c1 s1)).d * (lfF (.rt a2 b2 c2 s2)).d) = false := by
            unfold sameB at hs
            split at hs
            · cases hs
            · exact hs
          unfold cmpF
          refine unlike_ne h7 k7 ?_ ?_ h8 ?_
          · show s1 * (2 * a2) ≠ 0
            exact Int.mul_ne_zero (by omega) (by omega)
          · show -s2 * (2 * a1) ≠ 0
            exact Int.mul_ne_zero (by omega) (by omega)
          · intro z
            have : sqB ((lfF (.rt a1 b1 c1 s1)).d * (lfF (.rt a2 b2 c2 s2)).d) = true := by
              unfold sqB
              refine decide_eq_true ?_
              rw [show (2 : Int).toNat = 2 from rfl, Int.pow_succ, Int.pow_succ, Int.pow_zero, Int.one_mul]
              have nn : 0 ≤ (lfF (.rt a1 b1 c1 s1)).d * (lfF (.rt a2 b2 c2 s2)).d := Int.mul_nonneg a.d0 b.d0
              rw [← Int.toNat_of_nonneg nn, Int.toNat_natCast]
              exact_mod_cast z
            rw [this] at sq
            cases sq
    have p53 : fineB 1024 53 = 2 ^ 530 := by decide +kernel
    have dif : floorF (lfF x) (fineB 1024 53) ≠ floorF (lfF y) (fineB 1024 53) := by
      rw [p53]
      rcases s4_val _ _ _ _ _ a.d0 b.d0 with z | z | z
      · have := far_floor b a (sz_ok ok') (sz_ok ok) (by rw [cmp_swap a.d0 b.d0]; unfold cmpF; rw [z])
        omega
      · exact absurd z ne
      · have := far_floor a b (sz_ok ok) (sz_ok ok') z
        omega
    obtain ⟨i, hi, d1, d2⟩ := least (P := fun i => floorF (lfF x) (fineB 1024 i) ≠ floorF (lfF y) (fineB 1024 i)) 53 dif
    have fp : 0 < fineB 1024 i := Int.pow_pos (by decide)
    rw [e47u (BL_ok ok) (BL_ok ok') hW hs hi (fun j hj => by simpa using d2 j hj) d1 h]
    congr 2
    by_cases lt : floorF (lfF x) (fineB 1024 i) < floorF (lfF y) (fineB 1024 i)
    · rw [if_pos lt, floor_cmp a b fp lt]
    · rw [if_neg lt]
      have := floor_cmp b a fp (show floorF (lfF y) (fineB 1024 i) < floorF (lfF x) (fineB 1024 i) by omega)
      rw [cmp_swap a.d0 b.d0] at this
      omega
/-- the fraction that is found lies between, at last -/
theorem bt_found {l g : Lf} (a : Fd2 l) (b : Fd2 g) (sa : Sz l) (sb : Sz g) (h : cmpF l g = -1) : cmpF ⟨(fdF (floorF l (fineB 2 530)) 530).1, 0, (fdF (floorF l (fineB 2 530)) 530).2, 0⟩ g < 0 := by
  obtain ⟨T⟩ := SR.rt a.d0 b.d0
  have f := far a b sa sb T h
  unfold fdF fineB
  have n0 : (2 : Int) ^ 530 ≠ 0 := by have := fine_pos 530; unfold fineB at this; omega
  have cr := rate_cross (t := floorF l (2 ^ 530) + 1) n0
  have rp := rate_pos (t := floorF l (2 ^ 530) + 1) n0
  generalize rateF (floorF l (2 ^ 530) + 1) (2 ^ 530) = F at *
  unfold cmpF
  dsimp only
  rw [Int.zero_mul, s4_s0 (Int.le_refl 0) b.d0, ← sgn_sgu T.v0 T.hv]
  have cF := SR.c_pos (R := T.R) rp
  have cr' := SR.c_pos (R := T.R) b.r0
  have cN := c_pw0 (R := T.R) 530
  have cr2 := congrArg (SR.c (R := T.R)) cr
  rw [SR.c_mul, SR.c_mul] at cr2
  refine SR.sgn_lt_iff.mpr ?_
  simp only [SR.c_sub, SR.c_mul, SR.c_neg]
  generalize SR.c (R := T.R) (2 ^ 530 : Int) = N at *
  generalize SR.c (R := T.R) (floorF l (2 ^ 530) + 1) = m at *
  have p1 : 0 ≤ ((SR.c g.p + SR.c g.q * T.v) * N - m * SR.c g.r - SR.c g.r) * SR.c (R := T.R) F.2 := SR.mn (by walk_at "ln") (by walk_at "ln")
  have p2 := SR.mp cr' cF
  have := SR.can (x := SR.c (R := T.R) g.p * SR.c F.2 + SR.c g.q * SR.c F.2 * T.v - SR.c F.1 * SR.c g.r) (y := N) (by walk_at "ln") (by
    have e : (SR.c (R := T.R) g.p * SR.c F.2 + SR.c g.q * SR.c F.2 * T.v - SR.c F.1 * SR.c g.r) * N = ((SR.c g.p + SR.c g.q * T.v) * N - m * SR.c g.r - SR.c g.r) * SR.c F.2 + SR.c g.r * SR.c F.2 := by grind
    rw [e]
    walk_at "ln")
  walk_at "ln"
/-- the fraction of the law's between -/
def btF (l : Lf) (k : Nat) : Int × Int := fdF (floorF l (fineB 2 k)) k
/-- k is the first that will do -/
def BtK (l g : Lf) (k : Nat) : Prop := k ≤ 530 ∧ cmpF ⟨(btF l k).1, 0, (btF l k).2, 0⟩ g < 0 ∧ ∀ j : Nat, j < k → ¬ cmpF ⟨(btF l j).1, 0, (btF l j).2, 0⟩ g < 0
theorem bt_ex {x y : Nm} (ok : OkN x) (ok' : OkN y) (h : cmpF (lfF x) (lfF y) < 0) : ∃ k, BtK (lfF x) (lfF y) k := by
  have a := fd2_ok ok
  have b := fd2_ok ok'
  have h1 : cmpF (lfF x) (lfF y) = -1 := by
    rcases s4_val _ _ _ _ _ a.d0 b.d0 with z | z | z
    · have : cmpF (lfF x) (lfF y) = 1 := z
      omega
    · have : cmpF (lfF x) (lfF y) = 0 := z
      omega
    · exact z
  obtain ⟨i, h1, h2, h3⟩ := least (P := fun k => cmpF ⟨(btF (lfF x) k).1, 0, (btF (lfF x) k).2, 0⟩ (lfF y) < 0) 530 (bt_found a b (sz_ok ok) (sz_ok ok') h1)
  exact ⟨i, h1, h2, h3⟩
theorem fd_pos (m : Int) (k : Nat) : 0 < (fdF m k).2 := rate_pos (by have := fine_pos k; omega)
theorem W1000 {W : Nat} (hW : 2 ^ 8000 ≤ W) : 1000 ≤ W := Nat.le_trans (Nat.le_of_ble_eq_true (by decide +kernel : Nat.ble 1000 (2 ^ 8000) = true)) hW
theorem e26 {W n : Nat} {x y : Nm} (ok : OkN x) (ok' : OkN y) {k : Nat} (hk : BtK (lfF x) (lfF y) k) (hW : 2 ^ 8000 ≤ W) (h : Hh) : evN (PW W) (n + 6) true 26 [IE (elF x), IE (elF y)] h = .ok (I2 (btF (lfF x) k)) h := by
  obtain ⟨h1, h2, h3⟩ := hk
  have w := W1000 hW
  have lp := bt_loop (W := W) (n := n) (h := []) (el_bd ok) (el_bd ok') hW (mm := fun k => floorF (lfF x) (fineB 2 k)) k W 0 none (by omega) (by omega) (fun j hj => by
    rw [Nat.zero_add]
    exact tw_sc ok (fine_pos j)) (fun j hj => by
    rw [Nat.zero_add, sb_cmp (rp_plain (fd_pos _ _)) (rp_el ok')]
    exact h3 j hj) (by
    rw [Nat.zero_add, sb_cmp (rp_plain (fd_pos _ _)) (rp_el ok')]
    exact h2)
  rw [Nat.zero_add] at lp
  refine callP (d := d26) (h1 := []) rfl rfl rfl rfl (by unfold IE; rfl) rfl (q_go ?_)
  dsimp only [d26, List.map, List.replicate, Nat.sub, List.cons_append, List.nil_append]
  refine q_asg (v := .int 1) (h2 := []) (h4 := []) (ρ1 := [some (IE (elF x)), some (IE (elF y)), some (.int 1), none]) ?_ g_tn ?_
  · walk_at "evs"
  exact q_whlR lp
theorem IN_pure (x : Nm) : (IN x).pure = true := by cases x <;> rfl
theorem IN2_pure (x y : Nm) : PV.pures [IN x, IN y] = true := by cases x <;> cases y <;> rfl
theorem e25 {W n : Nat} {x y : Nm} (ok : OkN x) (ok' : OkN y) {k : Nat} (hc : cmpF (lfF x) (lfF y) < 0) (hk : BtK (lfF x) (lfF y) k) (hW : 2 ^ 8000 ≤ W) (h : Hh) : evN (PW W) (n + 7) true 25 [IN x, IN y] h = .ok (I2 (btF (lfF x) k)) h := by
  have t1 := fun h => e16 (W := W) (n := n + 1) ok hW h
  have t1' := fun h => e16 (W := W) (n := n + 1) ok' hW h
  have t2 := fun h => e17 (W := W) (n := n + 3) ok hW h
  have t2' := fun h => e17 (W := W) (n := n + 3) ok' hW h
  have t3 := fun h => e19 (W := W) (n := n + 2) ((el_bd ok).b6 rfl).be ((el_bd ok').b6 rfl).be h
  have t4 := fun h => e26 (W := W) (n := n) ok ok' hk hW h
  rw [← sb_cmp (rp_el ok) (rp_el ok')] at hc
  have nc : ¬ 0 ≤ sb (elF x) (elF y) := by omega
  refine callP (d := d25) (h1 := []) rfl rfl rfl rfl (IN2_pure x y) rfl (q_go ?_)
  dsimp only [d25, List.map, List.replicate, Nat.sub, List.cons_append, List.nil_append]
  walk_at "ev0"
  · exists t1
  walk_at "ev0"
  · exists t1'
  refine q_iffF' (kk := decide (0 ≤ sb (elF x) (elF y))) (h2 := []) ?_ (decide_eq_false nc) ?_
  · exists t2, t2', t3
  · exists t2, t2', t4
theorem e25x {W n : Nat} {x y : Nm} (ok : OkN x) (ok' : OkN y) (hc : ¬ cmpF (lfF x) (lfF y) < 0) (hW : 2 ^ 8000 ≤ W) (h : Hh) : ∃ h2, evN (PW W) (n + 6) true 25 [IN x, IN y] h = .ex 3 (IN y) (h ++ h2) := by
  have t1 := fun h => e16 (W := W) (n := n) ok hW h
  have t1' := fun h => e16 (W := W) (n := n) ok' hW h
  have t2 := fun h => e17 (W := W) (n := n + 2) ok hW h
  have t2' := fun h => e17 (W := W) (n := n + 2) ok' hW h
  have t3 := fun h => e19 (W := W) (n := n + 1) ((el_bd ok).b6 rfl).be ((el_bd ok').b6 rfl).be h
  rw [← sb_cmp (rp_el ok) (rp_el ok')] at hc
  have nc : 0 ≤ sb (elF x) (elF y) := by omega
  obtain ⟨h2, e⟩ := callX (W := W) (n := n + 5) (f := 25) (c := 3) (d := d25) (args := [IN x, IN y]) (v := IN y) (h := h) (h1 := []) rfl rfl rfl rfl (IN2_pure x y) (by
    refine q_go ?_
    dsimp only [d25, List.map, List.replicate, Nat.sub, List.cons_append, List.nil_append]
    walk_at "ev0"
    · exists t1
    walk_at "ev0"
    · exists t1'
    refine q_iffT' (kk := decide (0 ≤ sb (elF x) (elF y))) (h2 := []) ?_ (decide_eq_true nc) ?_
    · exists t2, t2', t3
    · walk_at "evs")
  refine ⟨h2, ?_⟩
  rw [e]
  cases y <;> rfl
/-! ### the law's compare of a fraction that may be long -/
theorem e39t {W n : Nat} {l : Lf} {d : Int} (c : l.d = 0 ∨ l.d = d) (h : Hh) : evN (PW W) (n + 2) true 39 [IL l, .int d] h = .ok (IL (brF l d)) h := by
  refine callP (d := d39) (h1 := []) rfl rfl rfl rfl rfl rfl (q_go ?_)
  dsimp only [d39, List.map, List.replicate, Nat.sub, List.cons_append, List.nil_append]
  unfold IL brF
  rw [if_pos c]
  refine q_iffT' (kk := (0 == l.d || (d == l.d || false))) (h2 := []) ?_ (by rcases c with z | z <;> simp [z]) ?_
  · walk_at "evs"
  · walk_at "evs"
theorem tidy_bd {k : Nat} {L : Lf} (b : BL k L) : BL k (tidyF L) := by
  obtain ⟨Lp, Lq, Lr, Ld, Lr0, Ld0⟩ := b
  have g0 : gcd3 L ≠ 0 := by
    unfold gcd3
    intro z
    have : Int.gcd (Int.gcd L.p L.q : Int) L.r = 0 := by omega
    have := (Int.gcd_eq_zero_iff.mp this).2
    omega
  have gp : 0 < gcd3 L := by unfold gcd3 at g0 ⊢; omega
  have d1 : gcd3 L ∣ L.p := Int.dvd_trans (Int.gcd_dvd_left ..) (Int.gcd_dvd_left ..)
  have d2 : gcd3 L ∣ L.q := Int.dvd_trans (Int.gcd_dvd_left ..) (Int.gcd_dvd_right ..)
  have d3 : gcd3 L ∣ L.r := Int.gcd_dvd_right ..
  have sm : ∀ {x : Int}, gcd3 L ∣ x → Bd k x → Bd k (x.fdiv (gcd3 L * 1)) := fun {x} hd hx => by
    rw [Int.mul_one, Int.fdiv_eq_ediv_of_dvd hd]
    exact Nat.lt_of_le_of_lt (Int.natAbs_ediv_le_natAbs x _) hx
  unfold tidyF
  refine ⟨sm d1 Lp, sm d2 Lq, sm d3 Lr, Ld, ?_, Ld0⟩
  show 0 < L.r.fdiv (gcd3 L * 1)
  rw [Int.mul_one, Int.fdiv_eq_ediv_of_dvd d3]
  obtain ⟨c, hc⟩ := d3
  rw [hc, Int.mul_ediv_cancel_left _ g0]
  rw [hc] at Lr0
  rcases Int.lt_trichotomy c 0 with z | z | z
  · have := Int.mul_neg_of_pos_of_neg gp z
    omega
  · rw [z, Int.mul_zero] at Lr0
    omega
  · exact z
theorem e47f {W n : Nat} {p : Int × Int} {y : Nm} (hp : Bd2 1867 p) (p0 : 0 < p.2) (ok' : OkN y) (hW : 2 ^ 8000 ≤ W) (h : Hh) : evN (PW W) (n + 5) true 47 [IL ⟨p.1, 0, p.2, 0⟩, IL (lfF y)] h = .ok (.int (cmpF ⟨p.1, 0, p.2, 0⟩ (lfF y))) h := by
  have b := fd2_ok ok'
  have s := sz_ok ok'
  have hs : sameB ⟨p.1, 0, p.2, 0⟩ (lfF y) = true := by unfold sameB fieldB; simp
  rw [← same_cmp (fd2_fr p0) b hs]
  generalize lfF y = g at b s hs
  obtain ⟨s1, s2, s3, s4⟩ := s
  have r0 := b.r0
  obtain ⟨p1, p2⟩ := hp
  -- one field
  have t1 : ∀ h, evN (PW W) (n + 4) true 45 [IL ⟨p.1, 0, p.2, 0⟩, IL g] h = .ok (.bl true) h := fun h => by
    refine callP (d := d45) (h1 := []) rfl rfl rfl rfl rfl rfl (q_go ?_)
    dsimp only [d45, List.map, List.replicate, Nat.sub, List.cons_append, List.nil_append]
    unfold IL
    refine q_iffT (h2 := []) (t_ooT (t_cmp (k := true) ?_)) ?_
    · refine v_cmp (h2 := []) (h4 := []) (x := .int 0) (y := .int 0) ?_ ?_ c_eq
      · walk_at "evs"
      · walk_at "evs"
    · walk_at "evs"
  have t2 := fun h => e43 (W := W) (n := n + 3) (l := g) h
  have eD : dF ⟨p.1, 0, p.2, 0⟩ (minusF g) = g.d := rfl
  have eL : brF ⟨p.1, 0, p.2, 0⟩ g.d = ⟨p.1, 0, p.2, g.d⟩ := by unfold brF; rw [if_pos (.inl rfl)]
  have eG : brF (minusF g) g.d = ⟨-g.p, -g.q, g.r, g.d⟩ := by unfold brF; rw [if_pos (.inr rfl)]; rfl
  have t3 : ∀ h, evN (PW W) (n + 3) true 40 [IL ⟨p.1, 0, p.2, 0⟩, IL (minusF g)] h = .ok (.tup [IL ⟨p.1, 0, p.2, g.d⟩, IL ⟨-g.p, -g.q, g.r, g.d⟩]) h := fun h => by
    refine callP (d := d40) (h1 := []) rfl rfl rfl rfl rfl rfl (q_go ?_)
    dsimp only [d40, List.map, List.replicate, Nat.sub, List.cons_append, List.nil_append]
    have q1 := fun h => e39t (W := W) (n := n) (l := ⟨p.1, 0, p.2, 0⟩) (d := g.d) (.inl rfl) h
    have q2 := fun h => e39t (W := W) (n := n) (l := minusF g) (d := g.d) (.inr rfl) h
    rw [eL] at q1
    rw [eG] at q2
    unfold IL at q1 q2 ⊢
    unfold minusF at q2 ⊢
    dsimp only at q1 q2 ⊢
    exists q1, q2
  have rr : 0 < p.2 * g.r := Int.mul_pos p0 r0
  have LB : BL 2000 ⟨p.1 * g.r + -g.p * p.2, 0 * g.r + -g.q * p.2, p.2 * g.r, g.d⟩ := ⟨by show Bd 2000 (p.1 * g.r + -g.p * p.2); walk_at "bw", by show Bd 2000 (0 * g.r + -g.q * p.2); walk_at "bw", by show Bd 2000 (p.2 * g.r); walk_at "bw", by show Bd 2000 g.d; walk_at "bw", rr, b.d0⟩
  have eS : sumF ⟨p.1, 0, p.2, 0⟩ (minusF g) = tidyF ⟨p.1 * g.r + -g.p * p.2, 0 * g.r + -g.q * p.2, p.2 * g.r, g.d⟩ := by
    unfold sumF
    dsimp only
    rw [eD, eL, eG]
  have t4 : ∀ h, evN (PW W) (n + 4) true 42 [IL ⟨p.1, 0, p.2, 0⟩, IL (minusF g)] h = .ok (IL (sumF ⟨p.1, 0, p.2, 0⟩ (minusF g))) h := fun h => by
    rw [eS]
    refine callP (d := d42) (h1 := []) rfl rfl rfl rfl rfl rfl (q_go ?_)
    dsimp only [d42, List.map, List.replicate, Nat.sub, List.cons_append, List.nil_append]
    have q1 := fun h => e41 (W := W) (n := n + 1) (LB.w rfl) hW h
    unfold IL at t3 q1 ⊢
    exists t3, q1
  have SB : BL 3000 (sumF ⟨p.1, 0, p.2, 0⟩ (minusF g)) := by
    rw [eS]
    exact (tidy_bd LB).w rfl
  have t5 := fun h => e44 (W := W) (n := n + 3) SB h
  refine callP (d := d47) (h1 := []) rfl rfl rfl rfl rfl rfl (q_go ?_)
  dsimp only [d47, List.map, List.replicate, Nat.sub, List.cons_append, List.nil_append]
  exists t1, t2, t4, t5
theorem e37f {W n : Nat} {p : Int × Int} (h : Hh) : evN (PW W) (n + 1) true 37 [I2 p] h = .ok (IL ⟨p.1, 0, p.2, 0⟩) h := by
  refine callP (d := d37) (h1 := []) rfl rfl rfl rfl rfl rfl (q_go ?_)
  dsimp only [d37, List.map, List.replicate, Nat.sub, List.cons_append, List.nil_append]
  unfold IL
  walk_at "evs"
theorem fl_bd {x : Nm} (ok : OkN x) {k : Nat} (hk : k ≤ 530) : Bd 1865 (floorF (lfF x) (fineB 2 k)) := tw_bd ((sc_bd (el_bd ok) (pow2 hk) (fine_pos k)).b6 rfl) (tw_sc ok (fine_pos k))
theorem bt_bd {x : Nm} (ok : OkN x) {k : Nat} (hk : k ≤ 530) : Bd2 1867 (btF (lfF x) k) ∧ 0 < (btF (lfF x) k).2 := fd_bd (fl_bd ok hk) hk
theorem lb_loop {W n : Nat} {h : Hh} {x y : Nm} (ok : OkN x) (ok' : OkN y) (hW : 2 ^ 8000 ≤ W) : ∀ (i m k : Nat) (z : Option PV), i < m → k + i ≤ 530 → (∀ j : Nat, j < i → ¬ cmpF ⟨(btF (lfF x) (k + j)).1, 0, (btF (lfF x) (k + j)).2, 0⟩ (lfF y) < 0) → cmpF ⟨(btF (lfF x) (k + i)).1, 0, (btF (lfF x) (k + i)).2, 0⟩ (lfF y) < 0 →
    whileL (ev (cf W (n + 5)) (.cst (.bl true))).t (ev (cf W (n + 5)) (.cons (.asg (.tn 3) (.call 35 (.cons (.bin .Add (.call 46 (.cons (.var 0) (.cons (.var 2) .nil))) (.cst (.int 1))) (.cons (.var 2) .nil)))) (.cons (.iff (.cmp .Lt (.call 47 (.cons (.call 37 (.cons (.var 3) .nil)) (.cons (.var 1) .nil))) (.cst (.int 0))) (.cons (.ret (.var 3)) .nil) .nil) (.cons (.asg (.tn 2) (.bin .Mult (.var 2) (.cst (.int 2)))) .nil)))).s m
      [some (IL (lfF x)), some (IL (lfF y)), some (.int (fineB 2 k)), z] h = .ok (.rt (I2 (btF (lfF x) (k + i)))) h
  | i, 0, k, z, h0, _, _, _ => by omega
  | i, m + 1, k, z, h0, h1, h3, h4 => by
    have fb := pow2 (k := k) (by omega)
    have fp := fine_pos k
    obtain ⟨db, d0⟩ := bt_bd ok (k := k) (by omega)
    have t1 := fun h => e46 (W := W) (n := n + 3) (BL_ok ok) (bdW fb rfl) hW h
    have t3 := fun h => e35 (W := W) (n := n + 3) (t := floorF (lfF x) (fineB 2 k) + 1) (b := fineB 2 k) (by omega) (bdW fb rfl) hW h
    have t4 := fun h => e37f (W := W) (n := n + 4) (p := btF (lfF x) k) h
    have t5 := fun h => e47f (W := W) (n := n) db d0 ok' hW h
    have mo : EV.MulOk (fineB 2 k) 2 := by walk_at "mk"
    unfold btF fdF at t4 t5
    cases i with
    | zero =>
      simp only [Nat.add_zero] at h4 ⊢
      unfold btF fdF at h4 ⊢
      refine w_rt' (kk := true) (h2 := h) ?_ rfl ?_
      · walk_at "evs"
      · exists t1, t3, t4, t5
    | succ i =>
      have c0 := h3 0 (by omega)
      rw [Nat.add_zero] at c0
      unfold btF fdF at c0
      have ih := lb_loop (W := W) (n := n) (h := h) ok ok' hW i m (k + 1) (some (I2 (rateF (floorF (lfF x) (fineB 2 k) + 1) (fineB 2 k)))) (by omega) (by omega) (fun j hj => by
        rw [show k + 1 + j = k + (j + 1) by omega]
        exact h3 (j + 1) (by omega)) (by
        rw [show k + 1 + i = k + (i + 1) by omega]
        exact h4)
      rw [show k + (i + 1) = k + 1 + i by omega]
      have fe : fineB 2 (k + 1) = fineB 2 k * 2 := Int.pow_succ ..
      refine w_nx' (kk := true) (h2 := h) (h4 := h) (ρ1 := [some (IL (lfF x)), some (IL (lfF y)), some (.int (fineB 2 (k + 1))), some (I2 (rateF (floorF (lfF x) (fineB 2 k) + 1) (fineB 2 k)))]) ?_ rfl ?_ ih
      · walk_at "evs"
      · rw [fe]
        exists t1, t3, t4, t5
theorem e50 {W n : Nat} {x y : Nm} (ok : OkN x) (ok' : OkN y) {k : Nat} (hk : BtK (lfF x) (lfF y) k) (hW : 2 ^ 8000 ≤ W) (h : Hh) : evN (PW W) (n + 6) true 50 [IL (lfF x), IL (lfF y)] h = .ok (I2 (btF (lfF x) k)) h := by
  obtain ⟨h1, h2, h3⟩ := hk
  have w := W1000 hW
  have lp := lb_loop (W := W) (n := n) (h := []) ok ok' hW k W 0 none (by omega) (by omega) (fun j hj => by
    rw [Nat.zero_add]
    exact h3 j hj) (by
    rw [Nat.zero_add]
    exact h2)
  rw [Nat.zero_add] at lp
  refine callP (d := d50) (h1 := []) rfl rfl rfl rfl rfl rfl (q_go ?_)
  dsimp only [d50, List.map, List.replicate, Nat.sub, List.cons_append, List.nil_append]
  refine q_asg (v := .int 1) (h2 := []) (h4 := []) (ρ1 := [some (IL (lfF x)), some (IL (lfF y)), some (.int 1), none]) ?_ g_tn ?_
  · walk_at "evs"
  exact q_whlR lp
end K01
set_option linter.all false
set_option maxRecDepth 100000
set_option maxHeartbeats 4000000
set_option exponentiation.threshold 20000
namespace K01F
open PySem PySem.Spec PyProof.Rows L2 EV
open K01 (PW bnd_ok SQ)
abbrev ct (W n : Nat) (cd : List Nat) : Cfg := cfgOf (PW W) (evN (PW W) n true) (fun k cs vs h => evN (PW W) n false k (cs ++ vs) h) true cd
/-! ### the evaluator, step by step -/
section
variable {W n : Nat} {cd : List Nat} {ρ ρ1 ρ2 : En} {h h2 h4 h6 : Hh} {v x y z : PV} {vs : List PV} {a b c t e tg args : T} {R : Rz Fl}
theorem v_var {i : Nat} (hs : slot ρ i = some v) : (ev (ct W n cd) (.var i)).e ρ h = .ok v h := by
  show (match slot ρ i with
    | some v => Rz.ok v h
    | none => .err) = _
  rw [hs]
theorem v_cst {k : PV} : (ev (ct W n cd) (.cst k)).e ρ h = .ok k h := rfl
theorem v_glb {g : Nat} (hs : K01.prog.glob[g]? = some v) : (ev (ct W n cd) (.glb g)).e ρ h = .ok v h := by
  show (match K01.prog.glob[g]? with
    | some v => Rz.ok v h
    | none => .err) = _
  rw [hs]
theorem a_nil : (ev (ct W n cd) .nil).a ρ h = .ok [] h := rfl
theorem a_cons (h1 : (ev (ct W n cd) a).e ρ h = .ok x h2) (h3 : (ev (ct W n cd) b).a ρ h2 = .ok vs h4) : (ev (ct W n cd) (.cons a b)).a ρ h = .ok (x :: vs) h4 := by
  show ((ev (ct W n cd) a).e ρ h).bnd (fun x h => ((ev (ct W n cd) b).a ρ h).bnd fun xs h => .ok (x :: xs) h) = _
  rw [h1, bnd_ok, h3, bnd_ok]
theorem v_tup (h1 : (ev (ct W n cd) a).a ρ h = .ok vs h2) (hl : vs.length ≤ sizeLine) : (ev (ct W n cd) (.tup a)).e ρ h = .ok (PV.tup vs) h2 := by
  show ((ev (ct W n cd) a).a ρ h).bnd (fun vs h => if vs.length ≤ sizeLine then .ok (PV.tup vs) h else .err) = _
  rw [h1, bnd_ok, if_pos hl]
theorem v_bin {op : Operator} (h1 : (ev (ct W n cd) a).e ρ h = .ok x h2) (h3 : (ev (ct W n cd) b).e ρ h2 = .ok y h4) (h5 : binV op x y h4 = .ok z h6) : (ev (ct W n cd) (.bin op a b)).e ρ h = .ok z h6 := by
  show ((ev (ct W n cd) a).e ρ h).bnd (fun x h => ((ev (ct W n cd) b).e ρ h).bnd fun y h => binV op x y h) = _
  rw [h1, bnd_ok, h3, bnd_ok, h5]
theorem v_neg {i : Int} (h1 : (ev (ct W n cd) a).e ρ h = .ok (PV.int i) h2) : (ev (ct W n cd) (.neg a)).e ρ h = .ok (PV.int (-i)) h2 := by
  show ((ev (ct W n cd) a).e ρ h).bnd (fun x h => match x with
    | .int i => .ok (PV.int (-i)) h
    | _ => .err) = _
  rw [h1, bnd_ok]
theorem v_cmp {op : CmpOp} (h1 : (ev (ct W n cd) a).e ρ h = .ok x h2) (h3 : (ev (ct W n cd) b).e ρ h2 = .ok y h4) (h5 : cmpV op x y h4 = .ok z h6) : (ev (ct W n cd) (.cmp op a b)).e ρ h = .ok z h6 := by
  show ((ev (ct W n cd) a).e ρ h).bnd (fun x h => ((ev (ct W n cd) b).e ρ h).bnd fun y h => cmpV op x y h) = _
  rw [h1, bnd_ok, h3, bnd_ok, h5]
theorem t_e {k : Bool} (hh : (ev (ct W n cd) t).t ρ h = ((ev (ct W n cd) t).e ρ h).bnd truV) (h1 : (ev (ct W n cd) t).e ρ h = .ok (PV.bl k) h2) : (ev (ct W n cd) t).t ρ h = .ok k h2 := by rw [hh, h1]; rfl
theorem t_var {i : Nat} {k : Bool} (h1 : (ev (ct W n cd) (.var i)).e ρ h = .ok (PV.bl k) h2) : (ev (ct W n cd) (.var i)).t ρ h = .ok k h2 := t_e rfl h1
theorem t_cmp {op : CmpOp} {k : Bool} (h1 : (ev (ct W n cd) (.cmp op a b)).e ρ h = .ok (PV.bl k) h2) : (ev (ct W n cd) (.cmp op a b)).t ρ h = .ok k h2 := t_e rfl h1
theorem t_chn {op op' : CmpOp} {k : Bool} (h1 : (ev (ct W n cd) (.chn op op' a b c)).e ρ h = .ok (PV.bl k) h2) : (ev (ct W n cd) (.chn op op' a b c)).t ρ h = .ok k h2 := t_e rfl h1
theorem t_call {f : Nat} {k : Bool} (h1 : (ev (ct W n cd) (.call f a)).e ρ h = .ok (PV.bl k) h2) : (ev (ct W n cd) (.call f a)).t ρ h = .ok k h2 := t_e rfl h1
theorem t_cst {q : PV} {k : Bool} (h1 : (ev (ct W n cd) (.cst q)).e ρ h = .ok (PV.bl k) h2) : (ev (ct W n cd) (.cst q)).t ρ h = .ok k h2 := t_e rfl h1
theorem t_blt {q : BI} {k : Bool} (h1 : (ev (ct W n cd) (.blt q a)).e ρ h = .ok (PV.bl k) h2) : (ev (ct W n cd) (.blt q a)).t ρ h = .ok k h2 := t_e rfl h1
theorem t_isi {q : Ty} {k : Bool} (h1 : (ev (ct W n cd) (.isi q a)).e ρ h = .ok (PV.bl k) h2) : (ev (ct W n cd) (.isi q a)).t ρ h = .ok k h2 := t_e rfl h1
theorem t_isx {q : Nat} {k : Bool} (h1 : (ev (ct W n cd) (.isx q a)).e ρ h = .ok (PV.bl k) h2) : (ev (ct W n cd) (.isx q a)).t ρ h = .ok k h2 := t_e rfl h1
theorem t_nt {k : Bool} (h1 : (ev (ct W n cd) a).t ρ h = .ok k h2) : (ev (ct W n cd) (.nt a)).t ρ h = .ok (!k) h2 := by
  show ((ev (ct W n cd) a).t ρ h).bnd (fun b h => .ok (!b) h) = _
  rw [h1]; rfl
theorem v_nt {k : Bool} (h1 : (ev (ct W n cd) a).e ρ h = .ok (PV.bl k) h2) : (ev (ct W n cd) (.nt a)).e ρ h = .ok (PV.bl (!k)) h2 := by
  show ((ev (ct W n cd) a).e ρ h).bnd (fun x h => match x with
      | .bl b => .ok (PV.bl (!b)) h
      | _ => .err) = _
  rw [h1]; rfl
theorem t_an {k l : Bool} (h1 : (ev (ct W n cd) a).t ρ h = .ok k h2) (h3 : k = true → (ev (ct W n cd) b).t ρ h2 = .ok l h2) : (ev (ct W n cd) (.an a b)).t ρ h = .ok (k && l) h2 := by
  show ((ev (ct W n cd) a).t ρ h).bnd (fun x h => if x = true then (ev (ct W n cd) b).t ρ h else .ok false h) = _
  rw [h1, bnd_ok]
  cases k with
  | true => rw [if_pos rfl, h3 rfl]; rfl
  | false => rfl
theorem t_oo {k l : Bool} (h1 : (ev (ct W n cd) a).t ρ h = .ok k h2) (h3 : k = false → (ev (ct W n cd) b).t ρ h2 = .ok l h2) : (ev (ct W n cd) (.oo a b)).t ρ h = .ok (k || l) h2 := by
  show ((ev (ct W n cd) a).t ρ h).bnd (fun x h => if x = true then .ok true h else (ev (ct W n cd) b).t ρ h) = _
  rw [h1, bnd_ok]
  cases k with
  | true => rfl
  | false => rw [if_neg (by decide), h3 rfl]; rfl
theorem v_an {k l : Bool} (h1 : (ev (ct W n cd) a).e ρ h = .ok (PV.bl k) h2) (h3 : k = true → (ev (ct W n cd) b).e ρ h2 = .ok (PV.bl l) h2) : (ev (ct W n cd) (.an a b)).e ρ h = .ok (PV.bl (k && l)) h2 := by
  show ((ev (ct W n cd) a).e ρ h).bnd (fun x h => match x with
      | .bl true => (ev (ct W n cd) b).e ρ h
      | .bl false => .ok (PV.bl false) h
      | _ => .err) = _
  rw [h1, bnd_ok]
  cases k with
  | true => exact h3 rfl
  | false => rfl
theorem v_oo {k l : Bool} (h1 : (ev (ct W n cd) a).e ρ h = .ok (PV.bl k) h2) (h3 : k = false → (ev (ct W n cd) b).e ρ h2 = .ok (PV.bl l) h2) : (ev (ct W n cd) (.oo a b)).e ρ h = .ok (PV.bl (k || l)) h2 := by
  show ((ev (ct W n cd) a).e ρ h).bnd (fun x h => match x with
      | .bl false => (ev (ct W n cd) b).e ρ h
      | .bl true => .ok (PV.bl true) h
      | _ => .err) = _
  rw [h1, bnd_ok]
  cases k with
  | true => rfl
  | false => exact h3 rfl
theorem v_ifeT (h1 : (ev (ct W n cd) c).t ρ h = .ok true h2) (h3 : (ev (ct W n cd) a).e ρ h2 = .ok x h4) : (ev (ct W n cd) (.ife c a b)).e ρ h = .ok x h4 := by
  show ((ev (ct W n cd) c).t ρ h).bnd (fun k h => if k = true then (ev (ct W n cd) a).e ρ h else (ev (ct W n cd) b).e ρ h) = _
  rw [h1, bnd_ok, if_pos rfl, h3]
theorem v_ifeF (h1 : (ev (ct W n cd) c).t ρ h = .ok false h2) (h3 : (ev (ct W n cd) b).e ρ h2 = .ok x h4) : (ev (ct W n cd) (.ife c a b)).e ρ h = .ok x h4 := by
  show ((ev (ct W n cd) c).t ρ h).bnd (fun k h => if k = true then (ev (ct W n cd) a).e ρ h else (ev (ct W n cd) b).e ρ h) = _
  rw [h1, bnd_ok, if_neg (by decide), h3]
theorem v_ife {k : Bool} {f g : PV} (h1 : (ev (ct W n cd) c).t ρ h = .ok k h2) (h3 : k = true → (ev (ct W n cd) a).e ρ h2 = .ok f h2) (h4 : k = false → (ev (ct W n cd) b).e ρ h2 = .ok g h2) : (ev (ct W n cd) (.ife c a b)).e ρ h = .ok (if k = true then f else g) h2 := by
  cases k with
  | true => exact v_ifeT h1 (h3 rfl)
  | false => exact v_ifeF h1 (h4 rfl)
theorem v_idx (h1 : (ev (ct W n cd) a).e ρ h = .ok x h2) (h3 : (ev (ct W n cd) b).e ρ h2 = .ok y h4) (h5 : idxV x y h4 = .ok z h4) : (ev (ct W n cd) (.idx a b)).e ρ h = .ok z h4 := by
  show ((ev (ct W n cd) a).e ρ h).bnd (fun x h => ((ev (ct W n cd) b).e ρ h).bnd fun y h => idxV x y h) = _
  rw [h1, bnd_ok, h3, bnd_ok, h5]
theorem v_call {f : Nat} (h1 : (ev (ct W n cd) args).a ρ h = .ok vs h2) (h3 : evN (PW W) n true f vs h2 = .ok v h4) : (ev (ct W n cd) (.call f args)).e ρ h = .ok v h4 := by
  show ((ev (ct W n cd) args).a ρ h).bnd (fun vs h => (evN (PW W) n true f vs h).nxf true) = _
  rw [h1, bnd_ok, h3]; rfl
theorem v_abs {i : Int} (h1 : (ev (ct W n cd) a).e ρ h = .ok (PV.int i) h2) : (ev (ct W n cd) (.blt .abs (.cons a .nil))).e ρ h = .ok (PV.int (if i < 0 then -i else i)) h2 := by
  show (((ev (ct W n cd) a).e ρ h).bnd fun x h => (Rz.ok ([] : List PV) h).bnd fun xs h => .ok (x :: xs) h).bnd (fun vs h => bltV .abs vs h) = _
  rw [h1]; rfl
theorem v_intI {i : Int} (h1 : (ev (ct W n cd) a).e ρ h = .ok (PV.int i) h2) : (ev (ct W n cd) (.blt .int (.cons a .nil))).e ρ h = .ok (PV.int i) h2 := by
  show (((ev (ct W n cd) a).e ρ h).bnd fun x h => (Rz.ok ([] : List PV) h).bnd fun xs h => .ok (x :: xs) h).bnd (fun vs h => bltV .int vs h) = _
  rw [h1]; rfl
theorem v_intB {i : Bool} (h1 : (ev (ct W n cd) a).e ρ h = .ok (PV.bl i) h2) : (ev (ct W n cd) (.blt .int (.cons a .nil))).e ρ h = .ok (PV.int (b2 i)) h2 := by
  show (((ev (ct W n cd) a).e ρ h).bnd fun x h => (Rz.ok ([] : List PV) h).bnd fun xs h => .ok (x :: xs) h).bnd (fun vs h => bltV .int vs h) = _
  rw [h1]; rfl
theorem v_lenT {xs : List PV} (h1 : (ev (ct W n cd) a).e ρ h = .ok (PV.tup xs) h2) : (ev (ct W n cd) (.blt .len (.cons a .nil))).e ρ h = .ok (PV.int xs.length) h2 := by
  show (((ev (ct W n cd) a).e ρ h).bnd fun x h => (Rz.ok ([] : List PV) h).bnd fun xs h => .ok (x :: xs) h).bnd (fun vs h => bltV .len vs h) = _
  rw [h1]; rfl
theorem v_isi {ty : Ty} {k : Bool} (h1 : (ev (ct W n cd) a).e ρ h = .ok x h2) (h3 : isV ty x h2 = some k) : (ev (ct W n cd) (.isi ty a)).e ρ h = .ok (PV.bl k) h2 := by
  show ((ev (ct W n cd) a).e ρ h).bnd (fun x h => match isV ty x h with
    | some b => .ok (PV.bl b) h
    | none => .err) = _
  rw [h1, bnd_ok, h3]
theorem v_bit {i : Int} (h1 : (ev (ct W n cd) a).e ρ h = .ok (PV.int i) h2) : (ev (ct W n cd) (.bit a)).e ρ h = .ok (PV.int (Builtin.Int.intBits i : Nat)) h2 := by
  show ((ev (ct W n cd) a).e ρ h).bnd (fun x h => bitlV x h) = _
  rw [h1]; rfl
variable {k : List T} {r : T}
theorem q_go (hq : SQ (ct W n cd) [t] ρ h = R) : (ev (ct W n cd) t).s ρ h = R := by
  rw [← hq]
  show _ = ((ev (ct W n cd) t).s ρ h).bnd _
  cases (ev (ct W n cd) t).s ρ h with
  | ok f h => cases f <;> rfl
  | _ => rfl
theorem q_nil (hq : SQ (ct W n cd) k ρ h = R) : SQ (ct W n cd) (.nil :: k) ρ h = R := hq
theorem q_cons : SQ (ct W n cd) (.cons e r :: k) ρ h = ((ev (ct W n cd) e).s ρ h).bnd fun f h => match f with
    | .nx ρ => SQ (ct W n cd) (r :: k) ρ h
    | f => .ok f h := by
  show (((ev (ct W n cd) e).s ρ h).bnd fun f h => match f with
    | .nx ρ => (ev (ct W n cd) r).s ρ h
    | f => .ok f h).bnd _ = _
  cases (ev (ct W n cd) e).s ρ h with
  | ok f h => cases f <;> rfl
  | _ => rfl
theorem q_xpr (h1 : (ev (ct W n cd) e).e ρ h = .ok v h2) (hq : SQ (ct W n cd) (r :: k) ρ h2 = R) : SQ (ct W n cd) (.cons (.xpr e) r :: k) ρ h = R := by
  rw [q_cons]
  show (((ev (ct W n cd) e).e ρ h).bnd fun v h => .ok (Fl.nx ρ) h).bnd _ = _
  rw [h1]; exact hq
theorem q_iffT (h1 : (ev (ct W n cd) c).t ρ h = .ok true h2) (hq : SQ (ct W n cd) (a :: r :: k) ρ h2 = R) : SQ (ct W n cd) (.cons (.iff c a b) r :: k) ρ h = R := by
  rw [q_cons]
  show (((ev (ct W n cd) c).t ρ h).bnd fun k h => if k = true then (ev (ct W n cd) a).s ρ h else (ev (ct W n cd) b).s ρ h).bnd _ = _
  rw [h1]; exact hq
theorem q_iffF (h1 : (ev (ct W n cd) c).t ρ h = .ok false h2) (hq : SQ (ct W n cd) (b :: r :: k) ρ h2 = R) : SQ (ct W n cd) (.cons (.iff c a b) r :: k) ρ h = R := by
  rw [q_cons]
  show (((ev (ct W n cd) c).t ρ h).bnd fun k h => if k = true then (ev (ct W n cd) a).s ρ h else (ev (ct W n cd) b).s ρ h).bnd _ = _
  rw [h1]; exact hq
theorem q_rse {c : Nat} (h1 : (ev (ct W n cd) e).e ρ h = .ok v h2) : SQ (ct W n cd) (.cons (.rse c e) r :: k) ρ h = .ex c v h2 := by
  rw [q_cons]
  show (((ev (ct W n cd) e).e ρ h).bnd fun v h => .ex c v h).bnd _ = _
  rw [h1]; rfl
theorem v_callk {f : Nat} {kws : T} {perm : List Nat} {ws us : List PV} (h1 : (ev (ct W n cd) args).a ρ h = .ok vs h2) (h3 : (ev (ct W n cd) kws).a ρ h2 = .ok ws h4) (hl : vs.length = args.len ∧ ws.length = kws.len) (hp : getAll (vs ++ ws) perm = some us) (h5 : evN (PW W) n true f us h4 = .ok v h6) : (ev (ct W n cd) (.callk f args kws perm)).e ρ h = .ok v h6 := by
  show ((ev (ct W n cd) args).a ρ h).bnd (fun vs h => ((ev (ct W n cd) kws).a ρ h).bnd fun ws h => if vs.length = args.len ∧ ws.length = kws.len then (match getAll (vs ++ ws) perm with
    | some us => (evN (PW W) n true f us h).nxf true
    | none => .err) else .err) = _
  rw [h1, bnd_ok, h3, bnd_ok, if_pos hl, hp]
  dsimp only
  rw [h5]; rfl
theorem v_lst (h1 : (ev (ct W n cd) a).a ρ h = .ok vs h2) (hl : vs.length ≤ sizeLine) : (ev (ct W n cd) (.lst a)).e ρ h = .ok (PV.ref h2.length) (h2 ++ [.lst false vs]) := by
  show ((ev (ct W n cd) a).a ρ h).bnd (fun vs h => if vs.length ≤ sizeLine then newL vs h else .err) = _
  rw [h1, bnd_ok, if_pos hl]; rfl
theorem v_rpI {i : Int} {s : Str} (h1 : (ev (ct W n cd) a).e ρ h = .ok (.int i) h2) (h3 : reprV (.int i) h2 = .ok (.str s) h2) : (ev (ct W n cd) (.rpx a)).e ρ h = .ok (.str s) h2 := by
  show ((ev (ct W n cd) a).e ρ h).bnd _ = _
  rw [h1, bnd_ok]
  exact h3
theorem v_rpT {xs : List PV} {s : Str} (h1 : (ev (ct W n cd) a).e ρ h = .ok (.tup xs) h2) (h3 : reprV (.tup xs) h2 = .ok (.str s) h2) : (ev (ct W n cd) (.rpx a)).e ρ h = .ok (.str s) h2 := by
  show ((ev (ct W n cd) a).e ρ h).bnd _ = _
  rw [h1, bnd_ok]
  exact h3
theorem v_attr {b : Bool} {c : Nat} (h1 : (ev (ct W n cd) a).e ρ h = .ok (.exc b c v) h2) : (ev (ct W n cd) (.attr a)).e ρ h = .ok v h2 := by
  show ((ev (ct W n cd) a).e ρ h).bnd _ = _
  rw [h1]; rfl
theorem v_isx {b : Bool} {c d : Nat} (h1 : (ev (ct W n cd) a).e ρ h = .ok (.exc b d v) h2) : (ev (ct W n cd) (.isx c a)).e ρ h = .ok (.bl (K01.prog.sub d c)) h2 := by
  show ((ev (ct W n cd) a).e ρ h).bnd _ = _
  rw [h1]; rfl
theorem v_lam {k : Nat} {l : List Nat} {vs : List PV} (h1 : K01.prog.caps[k]? = some l) (h3 : capVals ρ l = some vs) (hc : PV.noClos vs = true) : (ev (ct W n cd) (.lam k)).e ρ h = .ok (.clo k vs) h := by
  show (match K01.prog.caps[k]? with
    | some l => match capVals ρ l with
      | some vs => if PV.noClos vs then Rz.ok (PV.clo k vs) h else .err
      | none => .err
    | none => .err) = _
  rw [h1]
  dsimp only
  rw [h3]
  dsimp only
  rw [hc]; rfl
theorem g_tn {i : Nat} (hc : cd.contains i = false) : (ev (ct W n cd) (.tn i)).g v ρ h = .ok (ρ.set i (some v)) h := by
  show (if (true && cd.contains i) = true then _ else _) = _
  rw [hc]; rfl
theorem q_asg (h1 : (ev (ct W n cd) e).e ρ h = .ok v h2) (h3 : (ev (ct W n cd) tg).g v ρ h2 = .ok ρ1 h4) (hq : SQ (ct W n cd) (r :: k) ρ1 h4 = R) : SQ (ct W n cd) (.cons (.asg tg e) r :: k) ρ h = R := by
  rw [q_cons]
  show (((ev (ct W n cd) e).e ρ h).bnd fun v h => ((ev (ct W n cd) tg).g v ρ h).bnd fun ρ h => .ok (Fl.nx ρ) h).bnd _ = _
  rw [h1, bnd_ok, h3]; exact hq
theorem q_par2 {i j : Nat} (hi : cd.contains i = false) (hj : cd.contains j = false) (hy : PV.noClos [y] = true) (h1 : (ev (ct W n cd) a).a ρ h = .ok [x, y] h2) (hq : SQ (ct W n cd) (r :: k) ((ρ.set i (some x)).set j (some y)) h2 = R) : SQ (ct W n cd) (.cons (.par [i, j] a) r :: k) ρ h = R := by
  rw [q_cons]
  show (((ev (ct W n cd) a).a ρ h).bnd fun vs h => parV (ct W n cd) [i, j] vs ρ h).bnd _ = _
  rw [h1, bnd_ok]
  have e : parV (ct W n cd) [i, j] [x, y] ρ h2 = .ok (.nx ((ρ.set i (some x)).set j (some y))) h2 := by
    show (if (!true || PV.noClos [y]) = true then (putS (ct W n cd) i x ρ h2).bnd fun ρ h => parV (ct W n cd) [j] [y] ρ h else .err) = _
    rw [hy, if_pos (show (!true || true) = true from rfl)]
    have p1 : putS (ct W n cd) i x ρ h2 = .ok (ρ.set i (some x)) h2 := by
      show (if (true && cd.contains i) = true then _ else _) = _
      rw [hi]; rfl
    rw [p1, bnd_ok]
    show (if (!true || PV.noClos []) = true then (putS (ct W n cd) j y (ρ.set i (some x)) h2).bnd fun ρ h => parV (ct W n cd) [] [] ρ h else .err) = _
    have p2 : putS (ct W n cd) j y (ρ.set i (some x)) h2 = .ok ((ρ.set i (some x)).set j (some y)) h2 := by
      show (if (true && cd.contains j) = true then _ else _) = _
      rw [hj]; rfl
    rw [if_pos (show (!true || PV.noClos []) = true from rfl), p2]; rfl
  rw [e]
  exact hq
theorem q_ret (hv : v.noClo = true) (h1 : (ev (ct W n cd) e).e ρ h = .ok v h2) : SQ (ct W n cd) (.cons (.ret e) r :: k) ρ h = .ok (Fl.rt v) (killH h2) := by
  rw [q_cons]
  show (((ev (ct W n cd) e).e ρ h).bnd fun v h => if true = true then (if v.noClo = true then Rz.ok (Fl.rt v) (killH h) else .err) else .ok (Fl.rt v) h).bnd _ = _
  rw [h1, bnd_ok, if_pos rfl, if_pos hv]; rfl
theorem q_end : SQ (ct W n cd) [] ρ h = .ok (.nx ρ) h := rfl
variable {kk : Bool}
theorem q_iffT' (h1 : (ev (ct W n cd) c).t ρ h = .ok kk h2) (hk : kk = true) (hq : SQ (ct W n cd) (a :: r :: k) ρ h2 = R) : SQ (ct W n cd) (.cons (.iff c a b) r :: k) ρ h = R := by
  subst hk
  exact q_iffT h1 hq
theorem q_iffF' (h1 : (ev (ct W n cd) c).t ρ h = .ok kk h2) (hk : kk = false) (hq : SQ (ct W n cd) (b :: r :: k) ρ h2 = R) : SQ (ct W n cd) (.cons (.iff c a b) r :: k) ρ h = R := by
  subst hk
  exact q_iffF h1 hq
theorem t_ooF {l : Bool} (h1 : (ev (ct W n cd) a).t ρ h = .ok false h2) (h3 : (ev (ct W n cd) b).t ρ h2 = .ok l h4) : (ev (ct W n cd) (.oo a b)).t ρ h = .ok l h4 := by
  show ((ev (ct W n cd) a).t ρ h).bnd (fun x h => if x = true then .ok true h else (ev (ct W n cd) b).t ρ h) = _
  rw [h1, bnd_ok, if_neg (by decide), h3]
theorem t_anT {l : Bool} (h1 : (ev (ct W n cd) a).t ρ h = .ok true h2) (h3 : (ev (ct W n cd) b).t ρ h2 = .ok l h4) : (ev (ct W n cd) (.an a b)).t ρ h = .ok l h4 := by
  show ((ev (ct W n cd) a).t ρ h).bnd (fun x h => if x = true then (ev (ct W n cd) b).t ρ h else .ok false h) = _
  rw [h1, bnd_ok, if_pos rfl, h3]
theorem t_anF (h1 : (ev (ct W n cd) a).t ρ h = .ok false h2) : (ev (ct W n cd) (.an a b)).t ρ h = .ok false h2 := by
  show ((ev (ct W n cd) a).t ρ h).bnd (fun x h => if x = true then (ev (ct W n cd) b).t ρ h else .ok false h) = _
  rw [h1, bnd_ok, if_neg (by decide)]
end
end K01F
set_option linter.all false
set_option maxRecDepth 100000
set_option maxHeartbeats 4000000
set_option exponentiation.threshold 20000
namespace K01
open PySem PySem.Spec PyProof.Rows L2 EV
open SR (PR RT sgn)
open K01F (ct)
local macro_rules | `(tactic| walk_at "kn") => `(tactic| first
  | assumption
  | exact decide_eq_true (by assumption)
  | exact decide_eq_false (by assumption)
  | rfl
  | (simp only [*, decide_true, decide_false, Bool.not_true, Bool.not_false, Bool.and_self, Bool.or_self, Bool.and_true, Bool.true_and, Bool.or_false, Bool.false_or, Bool.and_false, Bool.false_and, Bool.or_true, Bool.true_or]; done)
  | (simp [*]; done))
local macro_rules | `(tactic| walk_at "sm") => `(tactic| first
  | ((with_reducible show slot _ _ = _); rfl)
  | ((with_reducible show idxV _ _ _ = _); rfl)
  | ((with_reducible show isV _ _ _ = _); rfl)
  | ((with_reducible show List.length _ = T.len _); rfl)
  | ((with_reducible show prog.glob[_]? = _); rfl)
  | ((with_reducible show _ ≤ sizeLine); exact le_sz rfl)
  | ((with_reducible show SQ _ [] _ _ = _); exact q_end)
  | ((with_reducible show EV.Ev.g (EV.ev _ (T.tn _)) _ _ _ = _); exact g_tn)
  | ((with_reducible show EV.Ev.gs (EV.ev _ T.nil) _ _ _ = _); exact gs_nil)
  | ((with_reducible show EV.MulOk _ _); assumption)
  | ((with_reducible show DivOk _); assumption)
  | ((with_reducible show PowOk _ _); assumption)
  | ((with_reducible show _ ≠ _); assumption)
  | ((with_reducible show ¬ _); assumption)
  | ((with_reducible show _ < _); assumption))
local macro_rules | `(tactic| walk_at "ev0") => `(tactic| with_reducible (first | apply v_var | apply v_cst | apply v_bin | apply v_idx | apply v_call | apply v_cmp | apply v_tup | apply v_neg | apply v_nt | apply v_an | apply v_oo | apply v_isi | apply v_glb | apply v_bit | apply v_abs | apply v_lenT | apply v_intB (a := .cmp _ _ _) | apply v_intI | apply a_nil | apply a_cons | apply t_nt | apply t_an | apply t_oo | apply t_cmp | apply t_chn | apply t_var | apply t_call | apply t_cst | apply t_blt | apply t_isi | apply t_isx | apply g_tn | apply g_tt | apply gs_nil | apply gs_cons | apply q_nil | apply q_ret | apply q_asg | apply q_xpr | apply q_rse | apply q_par2 | apply q_par3 | apply q_augA | apply q_augM | apply q_end | apply bi_add | apply bi_sub | apply bi_mul | apply bi_div | apply bi_mod | apply bi_pow | apply bi_subB | apply c_lt | apply c_le | apply c_gt | apply c_ge | apply c_eq | apply c_ne | apply c_eqB | apply c_eqS | apply c_neS | apply c_in2))
local macro_rules | `(tactic| walk_at "evs") => `(tactic| ((repeat' (first | walk_at "ev0" | walk_at "sm" | ((with_reducible apply q_iffT'); (focus (walk_at "evs"; done)); (focus (walk_at "kn"; done))) | ((with_reducible apply q_iffF'); (focus (walk_at "evs"; done)); (focus (walk_at "kn"; done))) | ((with_reducible apply v_ifeT'); (focus (walk_at "evs"; done)); (focus (walk_at "kn"; done))) | ((with_reducible apply v_ifeF'); (focus (walk_at "evs"; done)); (focus (walk_at "kn"; done))) | with_reducible apply v_ife | intro _)); (all_goals (first | walk_at "mk" | walk_at "bw" | assumption | skip))))
local macro_rules | `(tactic| exists $ts,*) => do
    let alts ← ts.getElems.mapM fun t => `(tacticSeq| with_reducible apply $t)
    let alt2 ← ts.getElems.mapM fun t => `(tacticSeq| ((with_reducible show EV.evN _ _ _ _ _ _ = _); apply $t))
    `(tactic| ((repeat' (first | walk_at "ev0" | walk_at "sm" | ((with_reducible apply q_iffT'); (focus (exists $ts,*; done)); (focus (walk_at "kn"; done))) | ((with_reducible apply q_iffF'); (focus (exists $ts,*; done)); (focus (walk_at "kn"; done))) | ((with_reducible apply v_ifeT'); (focus (exists $ts,*; done)); (focus (walk_at "kn"; done))) | ((with_reducible apply v_ifeF'); (focus (exists $ts,*; done)); (focus (walk_at "kn"; done))) | with_reducible apply v_ife $[| $alts]* | intro _ $[| $alt2]*)); (all_goals (first | walk_at "mk" | walk_at "bw" | assumption | skip))))
local macro_rules | `(tactic| walk_at "bdd") => `(tactic| repeat' (first | assumption | exact bd0 | exact bd1 | exact bdm1 | exact bd2 | exact bdm2 | exact bd4 | exact bd1024 | apply bdMul | apply bdAdd | apply bdSub | apply bdNeg))
local macro_rules | `(tactic| walk_at "mk") => `(tactic| (apply mulOk'; (focus (walk_at "bdd"; done)); (focus (walk_at "bdd"; done)); rfl))
local macro_rules | `(tactic| walk_at "bw") => `(tactic| (apply bdW; (focus (walk_at "bdd"; done)); rfl))
local macro_rules | `(tactic| walk_at "ln") => `(tactic| first | (refine SR.bl fun _ => ?_; grind) | (refine SR.bg fun _ => ?_; grind) | grind)
section
variable {W n : Nat} {ρ : En} {h h2 h4 : Hh} {v : PV} {a b : T} {vs : List PV}
theorem v_lst (h1 : (ev (cf W n) a).a ρ h = .ok vs h2) (hl : vs.length ≤ sizeLine) : (ev (cf W n) (.lst a)).e ρ h = .ok (PV.ref h2.length) (h2 ++ [.lst false vs]) := by
  show ((ev (cf W n) a).a ρ h).bnd (fun vs h => if vs.length ≤ sizeLine then newL vs h else .err) = _
  rw [h1, bnd_ok, if_pos hl]; rfl
theorem g_tsub {m j : Nat} {k : Int} {xs : List PV} (h1 : (ev (cf W n) a).e ρ h = .ok (.ref m) h2) (h3 : (ev (cf W n) b).e ρ h2 = .ok (.int k) h4) (hf : isFl h4 m = some xs) (hx : ixN xs.length k = some j) : (ev (cf W n) (.tsub a b)).g v ρ h = .ok ρ (h4.set m (.lst false (xs.set j v))) := by
  show ((ev (cf W n) a).e ρ h).bnd (fun x h => ((ev (cf W n) b).e ρ h).bnd fun y h => match x, y with
      | .ref n, .int k => match isFl h n with
        | some xs => match ixN xs.length k with
          | some j => Rz.ok ρ (h.set n (.lst false (xs.set j v)))
          | none => .err
        | none => .err
      | _, _ => .err) = _
  rw [h1, bnd_ok, h3, bnd_ok]
  dsimp only
  rw [hf]
  dsimp only
  rw [hx]
theorem v_lenR {m : Nat} {xs : List PV} (h1 : (ev (cf W n) a).e ρ h = .ok (.ref m) h2) (hg : getL h2 m = some xs) : (ev (cf W n) (.blt .len (.cons a .nil))).e ρ h = .ok (PV.int xs.length) h2 := by
  show (((ev (cf W n) a).e ρ h).bnd fun x h => (Rz.ok ([] : List PV) h).bnd fun xs h => .ok (x :: xs) h).bnd (fun vs h => bltV .len vs h) = _
  rw [h1]
  show (match getL h2 m with
    | some xs => Rz.ok (PV.int xs.length) h2
    | none => .err) = _
  rw [hg]
end
/-! ### pure values stay as they are -/
mutual
theorem pure_bak (m : List Nat) (L : Nat) : ∀ x : PV, x.pure = true → PV.bak m L x = x
  | .non, _ => rfl
  | .bl _, _ => rfl
  | .int _, _ => rfl
  | .str _, _ => rfl
  | .tup xs, h => by
    show PV.tup (PV.baks m L xs) = _
    rw [pures_bak m L xs h]
  | .ref _, h => by cases h
  | .exc b c v, h => by
    show PV.exc b c (PV.bak m L v) = _
    rw [pure_bak m L v h]
  | .clo _ _, h => by cases h
theorem pures_bak (m : List Nat) (L : Nat) : ∀ xs : List PV, PV.pures xs = true → PV.baks m L xs = xs
  | [], _ => rfl
  | x :: xs, h => by
    have h : (x.pure && PV.pures xs) = true := h
    rw [Bool.and_eq_true] at h
    show PV.bak m L x :: PV.baks m L xs = _
    rw [pure_bak m L x h.1, pures_bak m L xs h.2]
end
theorem lst_bak (m : List Nat) (L : Nat) {f : Bool} {xs : List PV} (h : PV.pures xs = true) : HV.bak m L (.lst f xs) = .lst f xs := by
  show HV.lst f (PV.baks m L xs) = _
  rw [pures_bak m L xs h]
theorem lst_ren (m : List Nat) {f : Bool} {xs : List PV} (h : PV.pures xs = true) : HV.ren m (.lst f xs) = some (.lst f xs) := by
  show (match PV.rens m xs with
    | some ys => some (HV.lst f ys)
    | none => none) = _
  rw [pures_rens m xs h]
/-! ### pots -/
abbrev PotV (a b c : Int) : HV := .lst false [.int a, .int b, .int c]
/-- at p there stands a pot that has been drawn from so often at most -/
def PH (k p : Nat) (H : Hh) : Prop := ∃ a b c, H[p]? = some (PotV a b c) ∧ 0 ≤ b ∧ b < 2 ^ 62 ∧ 0 ≤ c ∧ c ≤ k
/-- only what stands at p has changed -/
def Fr (p : Nat) (H H' : Hh) : Prop := H.length ≤ H'.length ∧ ∀ j, j < H.length → j ≠ p → H'[j]? = H[j]?
theorem Fr.rfl {p : Nat} {H : Hh} : Fr p H H := ⟨Nat.le_refl _, fun _ _ _ => Eq.refl _⟩
theorem Fr.trans {p : Nat} {H H' H2 : Hh} (a : Fr p H H') (b : Fr p H' H2) : Fr p H H2 := ⟨Nat.le_trans a.1 b.1, fun j hj hp => by rw [b.2 j (Nat.lt_of_lt_of_le hj a.1) hp, a.2 j hj hp]⟩
theorem Fr.app {p : Nat} {H H' : Hh} {xs : Hh} (a : Fr p H H') : Fr p H (H' ++ xs) := ⟨by rw [List.length_append]; have := a.1; omega, fun j hj hp => by rw [List.getElem?_append_left (Nat.lt_of_lt_of_le hj a.1), a.2 j hj hp]⟩
theorem PH.lt {k p : Nat} {H : Hh} (h : PH k p H) : p < H.length := by
  obtain ⟨a, b, c, e, _⟩ := h
  exact (List.getElem?_eq_some_iff.mp e).1
theorem PH.app {k p : Nat} {H : Hh} (h : PH k p H) (xs : Hh) : PH k p (H ++ xs) := by
  have l := h.lt
  obtain ⟨a, b, c, e, r⟩ := h
  exact ⟨a, b, c, by rw [List.getElem?_append_left l, e], r⟩
theorem PH.mono {k m p : Nat} {H : Hh} (h : PH k p H) (hk : k ≤ m) : PH m p H := by
  obtain ⟨a, b, c, e, r1, r2, r3, r4⟩ := h
  exact ⟨a, b, c, e, r1, r2, r3, by omega⟩
theorem posOf0 (p : Nat) (r : List Nat) : posOf p (p :: r) 0 = some 0 := by
  show (if p == p then some 0 else _) = _
  rw [if_pos (beq_self_eq_true p)]
theorem grabR {H : Hh} {p : Nat} {f : Bool} {xs as : List PV} (e : H[p]? = some (.lst f xs)) (hx : PV.pures xs = true) (ha : PV.pures as = true) : grab H (.ref p :: as) = some ([p], .ref 0 :: as, [.lst f xs]) := by
  unfold grab
  have e1 : PV.refss (.ref p :: as) = [p] := by
    show [p] ++ PV.refss as = [p]
    rw [pures_refs as ha]; rfl
  have e0 : reachF H 4000 [p] [] = some [p] := by
    show (if ([] : List Nat).contains p then _ else _) = _
    rw [if_neg (by simp)]
    show (match H[p]? with
      | some (.lst _ xs) => reachF H 3999 ([] ++ PV.refss xs) ([] ++ [p])
      | some .dct0 => reachF H 3999 [] ([] ++ [p])
      | _ => none) = _
    rw [e]
    show reachF H 3999 ([] ++ PV.refss xs) ([] ++ [p]) = _
    rw [pures_refs xs hx]; rfl
  have e2 : PV.rens [p] (.ref p :: as) = some (.ref 0 :: as) := by
    show (match PV.ren [p] (.ref p), PV.rens [p] as with
      | some y, some ys => some (y :: ys)
      | _, _ => none) = _
    rw [pures_rens [p] as ha]
    have : PV.ren [p] (.ref p) = some (.ref 0) := by
      show (match posOf p [p] 0 with
        | some k => some (PV.ref k)
        | none => none) = _
      rw [posOf0]
    rw [this]
  have e3 : renH [p] H [p] = some [.lst f xs] := by
    show (match H[p]? with
      | some o => match HV.ren [p] o, some [] with
        | some u, some us => some (u :: us)
        | _, _ => none
      | none => none) = _
    rw [e]
    show (match HV.ren [p] (.lst f xs), some [] with
        | some u, some us => some (u :: us)
        | _, _ => none) = _
    rw [lst_ren [p] hx]
  rw [e1, e0]
  show (if nodupB [p] = true then _ else _) = _
  rw [if_pos (by rfl)]
  show (match PV.rens [p] (.ref p :: as), renH [p] H [p] with
      | some as, some h0 => some ([p], as, h0)
      | _, _ => none) = _
  rw [e2, e3]
/-- what a def does over a heap of its own, whose beginning is a pot -/
theorem callR {W n f : Nat} {d : Fd} {H h1 : Hh} {p : Nat} {fl : Bool} {xs as : List PV} {v : PV} (hd : prog.fns[f]? = some d) (hl : as.length + 1 = d.np) (e : H[p]? = some (.lst fl xs)) (hx : PV.pures xs = true) (ha : PV.pures as = true)
    (r : endS d.flag ((ev (cfgOf (PW W) (evN (PW W) n true) (fun k cs vs h => evN (PW W) n false k (cs ++ vs) h) d.flag d.capd) d.body).s ((PV.ref 0 :: as).map some ++ List.replicate (d.ns - d.np) none) [.lst fl xs]) = .ok v h1) : evN (PW W) (n + 1) true f (.ref p :: as) H = .ok (v.bak [p] H.length) (wrt [p] H.length [p] h1 H) := by
  show (match (PW W).fns[f]? with
    | some d => if (PV.ref p :: as).length = d.np then runF (PW W) (evN (PW W) n true) (fun k cs vs h => evN (PW W) n false k (cs ++ vs) h) d (.ref p :: as) H else .err
    | none => .err) = _
  rw [show (PW W).fns[f]? = some d from hd]
  dsimp only
  rw [if_pos (by rw [List.length_cons]; exact hl)]
  unfold runF lcl
  rw [grabR e hx ha]
  dsimp only
  rw [r]
  rfl
theorem pot_back {k p : Nat} {H h1 : Hh} (l : p < H.length) (q : PH k 0 h1) : PH k p (wrt [p] H.length [p] h1 H) ∧ Fr p H (wrt [p] H.length [p] h1 H) := by
  obtain ⟨a', b', c', e', q⟩ := q
  match h1, e' with
  | o :: os, e' =>
    have eo : o = PotV a' b' c' := by simpa using e'
    subst eo
    have ew : wrt [p] H.length [p] (PotV a' b' c' :: os) H = H.set p (PotV a' b' c') ++ os.map (HV.bak [p] H.length) := by
      show H.set p (HV.bak [p] H.length (PotV a' b' c')) ++ os.map (HV.bak [p] H.length) = _
      rw [lst_bak _ _ rfl]
    rw [ew]
    refine ⟨⟨a', b', c', ?_, q⟩, ?_⟩
    · rw [List.getElem?_append_left (by rw [List.length_set]; exact l), List.getElem?_set_self l]
    · refine ⟨by rw [List.length_append, List.length_set]; omega, fun j hj hjp => ?_⟩
      rw [List.getElem?_append_left (by rw [List.length_set]; exact hj), List.getElem?_set_ne (by omega)]
theorem pot_run {W n f : Nat} {d : Fd} {H : Hh} {k k' p : Nat} {as : List PV} {Q : PV → Prop} (hp : PH k p H) (hd : prog.fns[f]? = some d) (hl : as.length + 1 = d.np) (ha : PV.pures as = true)
    (r : ∀ a b c : Int, PH k 0 [PotV a b c] → ∃ v h1, endS d.flag ((ev (cfgOf (PW W) (evN (PW W) n true) (fun k cs vs h => evN (PW W) n false k (cs ++ vs) h) d.flag d.capd) d.body).s ((PV.ref 0 :: as).map some ++ List.replicate (d.ns - d.np) none) [PotV a b c]) = .ok v h1 ∧ v.pure = true ∧ Q v ∧ PH k' 0 h1) : ∃ v H', evN (PW W) (n + 1) true f (.ref p :: as) H = .ok v H' ∧ Q v ∧ PH k' p H' ∧ Fr p H H' := by
  have l := hp.lt
  obtain ⟨a, b, c, e, r'⟩ := hp
  obtain ⟨v, h1, e1, hv, qv, q⟩ := r a b c ⟨a, b, c, rfl, r'⟩
  obtain ⟨p1, p2⟩ := pot_back l q
  refine ⟨v, wrt [p] H.length [p] h1 H, ?_, qv, p1, p2⟩
  rw [callR hd hl e rfl ha e1, pure_bak _ _ _ hv]
/-! ### digits -/
theorem fm {i j : Int} (h : 0 < j) : 0 ≤ i.fmod j ∧ i.fmod j < j := ⟨Int.fmod_nonneg_of_pos i h, Int.fmod_lt_of_pos i h⟩
def prs : List PV := [.int 2147483647, .int 2147483629, .int 2147483587, .int 2147483579, .int 2147483563]
theorem prs_at {i : Int} (h0 : 0 ≤ i) (h5 : i < 5) {h : Hh} {m : Nat} (hg : getL h m = some prs) : ∃ q : Int, idxV (.ref m) (.int i) h = .ok (.int q) h ∧ 0 < q ∧ q < 2 ^ 32 := by
  have key : ∀ q : Int, atI prs i = some (.int q) → idxV (.ref m) (.int i) h = .ok (.int q) h := fun q e => by
    show (match getL h m with
      | some xs => match atI xs i with
        | some v => Rz.ok v h
        | none => .err
      | none => .err) = _
    rw [hg]
    dsimp only
    rw [e]
  have : i = 0 ∨ i = 1 ∨ i = 2 ∨ i = 3 ∨ i = 4 := by omega
  rcases this with z | z | z | z | z <;> subst z <;> exact ⟨_, key _ (by rfl), by decide, by decide⟩
theorem take_b {W n : Nat} {a b c u : Int} (hu : 0 < u) (hu2 : u < 2 ^ 40) (b0 : 0 ≤ b) (b1 : b < 2 ^ 62) (c0 : 0 ≤ c) (c1 : c ≤ 1000) : ∃ d a' c' rest, (ev (cf W n) d28.body).s [some (.ref 0), some (.int u), none, none, none] [PotV a b c] = .ok (.rt (.int d)) (PotV a' b c' :: rest) ∧ 0 ≤ d ∧ d < u ∧ 0 ≤ c' ∧ c' ≤ c + 1 := by
  have un : u ≠ 0 := by omega
  have dk : DivOk u := divOk_bd un (bdW (show Bd 40 u by show u.natAbs < 2 ^ 40; omega) rfl)
  by_cases h0 : 0 < a
  · have f := fm (i := a) hu
    refine ⟨a.fmod u, a.fdiv u, c, [], ?_, f.1, f.2, c0, by omega⟩
    refine q_go ?_
    unfold d28
    refine q_iffT' (kk := decide (0 < a)) (h2 := [PotV a b c]) ?_ (decide_eq_true h0) ?_
    · walk_at "evs"
    walk_at "ev0"
    · walk_at "evs"
    · walk_at "evs"
    refine q_asg (v := .int (a.fdiv u)) (h2 := [PotV a b c]) (ρ1 := [some (.ref 0), some (.int u), none, none, some (.int (a.fmod u))]) (h4 := [PotV (a.fdiv u) b c]) ?_ ?_ ?_
    · walk_at "evs"
    · refine (g_tsub (m := 0) (k := 0) (j := 0) (xs := [.int a, .int b, .int c]) (h2 := [PotV a b c]) (h4 := [PotV a b c]) ?_ ?_ rfl rfl).trans rfl
      · walk_at "evs"
      · walk_at "evs"
    · walk_at "evs"
  · have f5 := fm (i := c + 1) (j := 5) (by decide)
    obtain ⟨q, eq, q0, q1⟩ := prs_at f5.1 f5.2 (h := [PotV a b (c + 1), .lst false prs]) (m := 1) rfl
    have m1 : EV.MulOk 95257 (c + 1) := mulOk' (show Bd 20 95257 by decide) (show Bd 20 (c + 1) by show (c + 1).natAbs < 2 ^ 20; omega) rfl
    have cb : Bd 10 (c + 1) := by show (c + 1).natAbs < 2 ^ 10; omega
    have pb : Bd 20 (95257 : Int) := by decide
    have bb : Bd 62 b := by show b.natAbs < 2 ^ 62; omega
    have k3 : Bd 20 (3163 : Int) := by decide
    have m2 : EV.MulOk (95257 * (c + 1)) (c + 1) := by walk_at "mk"
    have xb : Bd 70 (b + 95257 * (c + 1) * (c + 1) + 3163) := by walk_at "bw"
    have pk : PowOk (b + 95257 * (c + 1) * (c + 1) + 3163) 3 := by
      refine ⟨by decide, ?_⟩
      have : (b + 95257 * (c + 1) * (c + 1) + 3163).natAbs.log2 ≤ 70 := by
        by_cases z : (b + 95257 * (c + 1) * (c + 1) + 3163).natAbs = 0
        · rw [z]; decide
        · exact Nat.le_of_lt ((Nat.log2_lt z).mpr xb)
      show (_ + 1) * 3 ≤ 134217728
      omega
    have qn : q ≠ 0 := by omega
    obtain ⟨B, hB⟩ : ∃ B, B = Int.fmod ((b + 95257 * (c + 1) * (c + 1) + 3163) ^ (3 : Int).toNat) q := ⟨_, rfl⟩
    have fB := fm (i := (b + 95257 * (c + 1) * (c + 1) + 3163) ^ (3 : Int).toNat) (j := q) q0
    rw [← hB] at fB
    have f13 := fm (i := B) (j := 13441) (by decide)
    have Bb : Bd 32 B := by show B.natAbs < 2 ^ 32; omega
    have Rb : Bd 14 (B.fmod 13441) := by show (B.fmod 13441).natAbs < 2 ^ 14; omega
    have k4 : Bd 10 (419 : Int) := by decide
    have m3 : EV.MulOk 419 (c + 1) := by walk_at "mk"
    have m4 : EV.MulOk B (B.fmod 13441 + 419 * (c + 1)) := by walk_at "mk"
    have n1 : (13441 : Int) ≠ 0 := by decide
    have n2 : (2305843009213693907 : Int) ≠ 0 := by decide
    have n3 : (5 : Int) ≠ 0 := by decide
    have dk2 : DivOk 229 := divOk_bd (by decide) (bdW (show Bd 40 (229 : Int) by decide) rfl)
    obtain ⟨B2, hB2⟩ : ∃ B2, B2 = Int.fmod (B * (B.fmod 13441 + 419 * (c + 1))) 2305843009213693907 := ⟨_, rfl⟩
    have f := fm (i := B2.fdiv 229) hu
    refine ⟨(B2.fdiv 229).fmod u, a, c + 1, [.lst false prs], ?_, f.1, f.2, by omega, Int.le_refl _⟩
    refine q_go ?_
    unfold d28
    refine q_iffF' (kk := decide (0 < a)) (h2 := [PotV a b c]) ?_ (decide_eq_false h0) ?_
    · walk_at "evs"
    walk_at "ev0"
    refine q_asg (v := .int (c + 1)) (h2 := [PotV a b c]) (ρ1 := [some (.ref 0), some (.int u), none, none, none]) (h4 := [PotV a b (c + 1)]) ?_ ?_ ?_
    · walk_at "evs"
    · refine (g_tsub (m := 0) (k := 2) (j := 2) (xs := [.int a, .int b, .int c]) (h2 := [PotV a b c]) (h4 := [PotV a b c]) ?_ ?_ rfl rfl).trans rfl
      · walk_at "evs"
      · walk_at "evs"
    refine q_asg (v := .int q) (h2 := [PotV a b (c + 1), .lst false prs]) (ρ1 := [some (.ref 0), some (.int u), some (.int q), none, none]) (h4 := [PotV a b (c + 1), .lst false prs]) ?_ g_tn ?_
    · refine v_idx (h2 := [PotV a b (c + 1), .lst false prs]) (x := .ref 1) (y := .int ((c + 1).fmod 5)) (h4 := [PotV a b (c + 1), .lst false prs]) ?_ ?_ eq
      · refine v_lst (h2 := [PotV a b (c + 1)]) (vs := prs) ?_ (le_sz rfl)
        unfold prs
        walk_at "evs"
      · walk_at "evs"
    refine q_asg (v := .int B) (h2 := [PotV a b (c + 1), .lst false prs]) (ρ1 := [some (.ref 0), some (.int u), some (.int q), some (.int B), none]) (h4 := [PotV a b (c + 1), .lst false prs]) ?_ g_tn ?_
    · rw [hB]
      walk_at "evs"
    refine q_asg (v := .int B2) (h2 := [PotV a b (c + 1), .lst false prs]) (ρ1 := [some (.ref 0), some (.int u), some (.int q), some (.int B2), none]) (h4 := [PotV a b (c + 1), .lst false prs]) ?_ g_tn ?_
    · rw [hB2]
      walk_at "evs"
    walk_at "evs"
theorem e28 {W n k p : Nat} {u : Int} {H : Hh} (hu : 0 < u) (hu2 : u < 2 ^ 40) (hp : PH k p H) (hk : k ≤ 1000) : ∃ d H', evN (PW W) (n + 1) true 28 [.ref p, .int u] H = .ok (.int d) H' ∧ (0 ≤ d ∧ d < u) ∧ PH (k + 1) p H' ∧ Fr p H H' := by
  obtain ⟨v, H', e, ⟨d, rfl, q⟩, r⟩ := pot_run (W := W) (n := n) (f := 28) (d := d28) (k' := k + 1) (as := [.int u]) (Q := fun v => ∃ d, v = .int d ∧ 0 ≤ d ∧ d < u) hp rfl rfl rfl (fun a b c hp => by
    obtain ⟨a1, b1, c1, e, r1, r2, r3, r4⟩ := hp
    have e : PotV a b c = PotV a1 b1 c1 := by simpa using e
    rw [e]
    obtain ⟨d, a', c', rest, eb, d0, d1, c0, c2⟩ := take_b (W := W) (n := n) (a := a1) (b := b1) (c := c1) hu hu2 r1 r2 r3 (by omega)
    refine ⟨.int d, PotV a' b1 c' :: rest, ?_, rfl, ⟨d, rfl, d0, d1⟩, ⟨a', b1, c', rfl, r1, r2, c0, by omega⟩⟩
    show endS false ((ev (cf W n) d28.body).s [some (.ref 0), some (.int u), none, none, none] [PotV a1 b1 c1]) = _
    rw [eb]; rfl)
  exact ⟨d, H', e, q, r⟩
theorem reach_two {H : Hh} {p q : Nat} {f g : Bool} {xs ys : List PV} (e : H[p]? = some (.lst f xs)) (e' : H[q]? = some (.lst g ys)) (hne : q ≠ p) (hx : PV.pures xs = true) (hy : PV.pures ys = true) : reachF H 4000 [p, q] [] = some [p, q] := by
  show (if ([] : List Nat).contains p then _ else _) = _
  rw [if_neg (by simp)]
  show (match H[p]? with
    | some (.lst _ xs) => reachF H 3999 ([q] ++ PV.refss xs) ([] ++ [p])
    | some .dct0 => reachF H 3999 [q] ([] ++ [p])
    | _ => none) = _
  rw [e]
  show reachF H 3999 ([q] ++ PV.refss xs) ([] ++ [p]) = _
  rw [pures_refs xs hx]
  show (if ([p] : List Nat).contains q then _ else _) = _
  rw [if_neg (by simp [hne])]
  show (match H[q]? with
    | some (.lst _ xs) => reachF H 3998 ([] ++ PV.refss xs) ([p] ++ [q])
    | some .dct0 => reachF H 3998 [] ([p] ++ [q])
    | _ => none) = _
  rw [e']
  show reachF H 3998 ([] ++ PV.refss ys) ([p] ++ [q]) = _
  rw [pures_refs ys hy]; rfl
theorem grab_two {H : Hh} {p q : Nat} {f g : Bool} {xs ys : List PV} (e : H[p]? = some (.lst f xs)) (e' : H[q]? = some (.lst g ys)) (hne : q ≠ p) (hx : PV.pures xs = true) (hy : PV.pures ys = true) : grab H [.ref p, .ref q] = some ([p, q], [.ref 0, .ref 1], [.lst f xs, .lst g ys]) := by
  unfold grab
  rw [show PV.refss [.ref p, .ref q] = [p, q] from rfl, reach_two e e' hne hx hy]
  show (if nodupB [p, q] = true then _ else _) = _
  rw [if_pos (by
    show ((!([q] : List Nat).contains p) && ((!([] : List Nat).contains q) && true)) = true
    have : ¬ p = q := fun z => hne z.symm
    simp [this])]
  have e2 : PV.rens [p, q] [.ref p, .ref q] = some [.ref 0, .ref 1] := by
    have a1 : posOf q [p, q] 0 = some 1 := by
      show (if p == q then some 0 else if q == q then some 1 else none) = _
      rw [if_neg (by simp; exact fun z => hne z.symm), if_pos (beq_self_eq_true q)]
    show (match (match posOf p [p, q] 0 with
        | some k => some (PV.ref k)
        | none => none), (match (match posOf q [p, q] 0 with
        | some k => some (PV.ref k)
        | none => none), some ([] : List PV) with
        | some y, some ys => some (y :: ys)
        | _, _ => none) with
      | some y, some ys => some (y :: ys)
      | _, _ => none) = _
    rw [a1, posOf0]
  have e3 : renH [p, q] H [p, q] = some [.lst f xs, .lst g ys] := by
    show (match H[p]? with
      | some o => match HV.ren [p, q] o, (match H[q]? with
        | some o => match HV.ren [p, q] o, some ([] : Hh) with
          | some u, some us => some (u :: us)
          | _, _ => none
        | none => none) with
        | some u, some us => some (u :: us)
        | _, _ => none
      | none => none) = _
    rw [e, e']
    dsimp only
    rw [lst_ren _ hx, lst_ren _ hy]
  rw [e2, e3]
theorem mem_pure : ∀ {xs : List PV} {v : PV}, PV.pures xs = true → v ∈ xs → v.pure = true
  | x :: xs, v, h, hv => by
    have h : (x.pure && PV.pures xs) = true := h
    rw [Bool.and_eq_true] at h
    rcases List.mem_cons.mp hv with z | z
    · rw [z]; exact h.1
    · exact mem_pure h.2 z
theorem callRR {W n f : Nat} {d : Fd} {H h1 : Hh} {p q : Nat} {fl gl : Bool} {xs ys : List PV} {v : PV} (hd : prog.fns[f]? = some d) (hl : 2 = d.np) (e : H[p]? = some (.lst fl xs)) (e' : H[q]? = some (.lst gl ys)) (hne : q ≠ p) (hx : PV.pures xs = true) (hy : PV.pures ys = true)
    (r : endS d.flag ((ev (cfgOf (PW W) (evN (PW W) n true) (fun k cs vs h => evN (PW W) n false k (cs ++ vs) h) d.flag d.capd) d.body).s ([PV.ref 0, .ref 1].map some ++ List.replicate (d.ns - d.np) none) [.lst fl xs, .lst gl ys]) = .ok v h1) : evN (PW W) (n + 1) true f [.ref p, .ref q] H = .ok (v.bak [p, q] H.length) (wrt [p, q] H.length [p, q] h1 H) := by
  show (match (PW W).fns[f]? with
    | some d => if [PV.ref p, .ref q].length = d.np then runF (PW W) (evN (PW W) n true) (fun k cs vs h => evN (PW W) n false k (cs ++ vs) h) d [.ref p, .ref q] H else .err
    | none => .err) = _
  rw [show (PW W).fns[f]? = some d from hd]
  dsimp only
  rw [if_pos (show [PV.ref p, PV.ref q].length = d.np from hl)]
  unfold runF lcl
  rw [grab_two e e' hne hx hy]
  dsimp only
  rw [r]
  rfl
theorem atI_mem {xs : List PV} {d : Int} (h0 : 0 ≤ d) (h1 : d < xs.length) : ∃ v, atI xs d = some v ∧ v ∈ xs := by
  obtain ⟨k, rfl⟩ := Int.eq_ofNat_of_zero_le h0
  have hk : k < xs.length := by omega
  refine ⟨xs[k], ?_, List.getElem_mem hk⟩
  unfold atI ixN
  simp [hk]
theorem of_b {W n k : Nat} {xs : List PV} {a b c : Int} (hp : PH k 0 [PotV a b c, .lst false xs]) (hk : k ≤ 1000) (hl : 0 < xs.length) (hl2 : xs.length < 1000) : ∃ v h1, (ev (cf W (n + 1)) d29.body).s [some (.ref 0), some (.ref 1)] [PotV a b c, .lst false xs] = .ok (.rt v) h1 ∧ v ∈ xs ∧ PH (k + 1) 0 h1 ∧ Fr 0 [PotV a b c, .lst false xs] h1 := by
  obtain ⟨d, h1, e, ⟨d0, d1⟩, p1, f1⟩ := e28 (W := W) (n := n) (u := (xs.length : Int)) (by omega) (by omega) hp hk
  obtain ⟨v, av, hv⟩ := atI_mem d0 d1
  refine ⟨v, h1, ?_, hv, p1, f1⟩
  refine q_go ?_
  unfold d29
  refine q_ret ?_
  refine v_idx (h2 := [PotV a b c, .lst false xs]) (x := .ref 1) (y := .int d) (h4 := h1) (v_var rfl) (v_call (vs := [.ref 0, .int xs.length]) (h2 := [PotV a b c, .lst false xs]) ?_ e) ?_
  · exact a_cons (v_var rfl) (a_cons (v_lenR (v_var rfl) rfl) a_nil)
  · show (match getL h1 1 with
      | some xs => match atI xs d with
        | some v => Rz.ok v h1
        | none => .err
      | none => .err) = _
    have g : getL h1 1 = some xs := by
      unfold getL
      rw [f1.2 1 (by simp) (by decide)]; rfl
    rw [g]
    dsimp only
    rw [av]
theorem e29 {W n k p q : Nat} {xs : List PV} {H : Hh} (hp : PH k p H) (hq : H[q]? = some (.lst false xs)) (hne : q ≠ p) (hx : PV.pures xs = true) (hk : k ≤ 1000) (hl : 0 < xs.length) (hl2 : xs.length < 1000) : ∃ v H', evN (PW W) (n + 2) true 29 [.ref p, .ref q] H = .ok v H' ∧ v ∈ xs ∧ PH (k + 1) p H' ∧ Fr p H H' := by
  have l := hp.lt
  have lq := (List.getElem?_eq_some_iff.mp hq).1
  obtain ⟨a, b, c, e, r⟩ := hp
  obtain ⟨v, h1, eb, hv, ⟨a', b', c', e', r'⟩, f1⟩ := of_b (W := W) (n := n) (xs := xs) (a := a) (b := b) (c := c) ⟨a, b, c, rfl, r⟩ hk hl hl2
  have pv := mem_pure hx hv
  have g1 := f1.2 1 (by simp) (by decide)
  refine ⟨v, wrt [p, q] H.length [p, q] h1 H, ?_, hv, ?_⟩
  · rw [callRR (d := d29) (v := v) (h1 := h1) rfl rfl e hq hne rfl hx (by
      show endS false ((ev (cf W (n + 1)) d29.body).s [some (.ref 0), some (.ref 1)] [PotV a b c, .lst false xs]) = _
      rw [eb]; rfl), pure_bak _ _ _ pv]
  · match h1, e', g1 with
    | o :: o2 :: os, e', g1 =>
      have eo : o = PotV a' b' c' := by simpa using e'
      have eo2 : o2 = .lst false xs := by simpa using g1
      subst eo
      subst eo2
      have ew : wrt [p, q] H.length [p, q] (PotV a' b' c' :: .lst false xs :: os) H = (H.set p (PotV a' b' c')).set q (.lst false xs) ++ os.map (HV.bak [p, q] H.length) := by
        show (H.set p (HV.bak [p, q] H.length (PotV a' b' c'))).set q (HV.bak [p, q] H.length (.lst false xs)) ++ os.map (HV.bak [p, q] H.length) = _
        rw [lst_bak _ _ rfl, lst_bak _ _ hx]
      rw [ew]
      refine ⟨⟨a', b', c', ?_, r'⟩, ?_⟩
      · rw [List.getElem?_append_left (by rw [List.length_set, List.length_set]; exact l), List.getElem?_set_ne (by omega), List.getElem?_set_self l]
      · refine ⟨by rw [List.length_append, List.length_set, List.length_set]; omega, fun j hj hjp => ?_⟩
        rw [List.getElem?_append_left (by rw [List.length_set, List.length_set]; exact hj)]
        by_cases z : j = q
        · subst z
          rw [List.getElem?_set_self (by rw [List.length_set]; exact hj), hq]
        · rw [List.getElem?_set_ne (by omega), List.getElem?_set_ne (by omega)]
theorem ok_run {d : Fd} {W n : Nat} {as : List PV} {h0 h1 : Hh} {v : PV} (hfl : d.flag = false) (hcd : d.capd = []) (e : (ev (cf W n) d.body).s (as.map some ++ List.replicate (d.ns - d.np) none) h0 = .ok (.rt v) h1) : endS d.flag ((ev (cfgOf (PW W) (evN (PW W) n true) (fun k cs vs h => evN (PW W) n false k (cs ++ vs) h) d.flag d.capd) d.body).s (as.map some ++ List.replicate (d.ns - d.np) none) h0) = .ok v h1 := by
  rw [hfl, hcd]
  show endS false ((ev (cf W n) d.body).s _ h0) = _
  rw [e]; rfl
/-- a little fraction -/
def Part (v : PV) : Prop := ∃ t b : Int, v = I2 (rateF t b) ∧ -9 ≤ t ∧ t ≤ 9 ∧ 1 ≤ b ∧ b ≤ 4
theorem e48 {W n k p : Nat} {H : Hh} (hp : PH k p H) (hk : k ≤ 990) (hW : 2 ^ 8000 ≤ W) : ∃ v H', evN (PW W) (n + 4) true 48 [.ref p, .int 9] H = .ok v H' ∧ Part v ∧ PH (k + 3) p H' ∧ Fr p H H' := by
  refine pot_run (d := d48) hp rfl rfl rfl fun a b c hp => ?_
  obtain ⟨d1, h1, e1, ⟨p1, p2⟩, ph1, f1⟩ := e28 (W := W) (n := n + 2) (u := 19) (by decide) (by decide) hp (by omega)
  have l1 := ph1.lt
  have ph1' := ph1.app [.lst false [.int 1, .int 1, .int 2, .int 4]]
  have hq : (h1 ++ [HV.lst false [.int 1, .int 1, .int 2, .int 4]])[h1.length]? = some (.lst false [.int 1, .int 1, .int 2, .int 4]) := by
    rw [List.getElem?_append_right (Nat.le_refl _), Nat.sub_self]; rfl
  obtain ⟨v2, h2, e2, m2, ph2, f2⟩ := e29 (W := W) (n := n + 1) ph1' hq (by omega) rfl (by omega) (by decide) (by decide)
  obtain ⟨u, rfl, hu1, hu4⟩ : ∃ u : Int, v2 = .int u ∧ 1 ≤ u ∧ u ≤ 4 := by
    simp only [List.mem_cons, List.not_mem_nil, or_false] at m2
    rcases m2 with z | z | z | z <;> exact ⟨_, z, by decide, by decide⟩
  obtain ⟨d3, h3, e3, ⟨q1, q2⟩, ph3, f3⟩ := e28 (W := W) (n := n + 2) (u := u) (by omega) (by omega) ph2 (by omega)
  have bb : Bd 8000 (1 + d3) := bdW (show Bd 10 (1 + d3) by show (1 + d3).natAbs < 2 ^ 10; omega) rfl
  have t35 := fun h => e35 (W := W) (n := n + 1) (t := d1 - 9) (b := 1 + d3) (by omega) bb hW h
  refine ⟨I2 (rateF (d1 - 9) (1 + d3)), h3, ok_run rfl rfl (q_go ?_), rfl, ⟨_, _, rfl, by omega, by omega, by omega, by omega⟩, ph3.mono (by omega)⟩
  dsimp only [d48, List.map, List.replicate, Nat.sub, List.cons_append, List.nil_append]
  refine q_ret (v_call (vs := [.int (d1 - 9), .int (1 + d3)]) (h2 := h3) ?_ (t35 h3))
  have m19 : EV.MulOk 2 9 := by decide
  refine a_cons (h2 := h1) ?_ (a_cons (h2 := h3) ?_ a_nil)
  · refine v_bin (h2 := h1) (h4 := h1) (x := .int d1) (y := .int 9) (v_intI (v_call (vs := [.ref 0, .int 19]) (h2 := [PotV a b c]) ?_ e1)) (v_var rfl) bi_sub
    have e19 : (19 : Int) = 2 * 9 + 1 := rfl
    rw [e19]
    walk_at "evs"
  · refine v_bin (h2 := h1) (h4 := h3) (x := .int 1) (y := .int d3) v_cst (v_intI (v_call (vs := [.ref 0, .int u]) (h2 := h2) ?_ e3)) bi_add
    refine a_cons (h2 := h1) (v_var rfl) (a_cons (h2 := h2) (v_call (vs := [.ref 0, .ref h1.length]) (h2 := h1 ++ [.lst false [.int 1, .int 1, .int 2, .int 4]]) ?_ e2) a_nil)
    refine a_cons (h2 := h1) (v_var rfl) (a_cons (v_lst (vs := [.int 1, .int 1, .int 2, .int 4]) ?_ (le_sz rfl)) a_nil)
    walk_at "evs"
theorem rate_gcd {t b : Int} (hb : b ≠ 0) : Int.gcd (rateF t b).1 (rateF t b).2 = 1 := by
  obtain ⟨e1, e2⟩ := rate_eq (t := t) hb
  have g0 := gg_ne (t := t) hb
  have ga := gg_abs t b
  have k : Int.gcd (gg t b * (rateF t b).1) (gg t b * (rateF t b).2) = (gg t b).natAbs * Int.gcd (rateF t b).1 (rateF t b).2 := Int.gcd_mul_left ..
  rw [← e1, ← e2, ga] at k
  have gp : 0 < Int.gcd t b := by omega
  exact (Nat.eq_of_mul_eq_mul_left gp (by omega)).symm
theorem fr_ok {t b : Int} (hb : b ≠ 0) (h1 : Bd 25 t) (h2 : Bd 25 b) : OkN (.fr (rateF t b).1 (rateF t b).2) := by
  have r := rate_bd hb h1 h2
  exact ⟨r.1, r.2, rate_pos hb, rate_gcd hb⟩
def g3 (a b c : Int) : Int := Int.gcd (Int.gcd a b : Int) c
/-- the law's told number -/
def rtF (p q r d : Int) : Nm :=
  .rt ((r * r).fdiv (g3 (r * r) (-2 * p * r) (p * p - q * q * d))) ((-2 * p * r).fdiv (g3 (r * r) (-2 * p * r) (p * p - q * q * d))) ((p * p - q * q * d).fdiv (g3 (r * r) (-2 * p * r) (p * p - q * q * d))) (if 0 < q then 1 else -1)
theorem rt_ok {p q r d : Int} (hp : Bd 8 p) (hq : Bd 8 q) (hr : Bd 8 r) (hd : Bd 5 d) (r0 : 0 < r) (q0 : q ≠ 0) (d0 : 0 < d) (nd : isq d.toNat * isq d.toNat ≠ d.toNat) : OkN (rtF p q r d) := by
  unfold rtF
  have ha : Bd 25 (r * r) := by walk_at "bw"
  have hb : Bd 25 (-2 * p * r) := by walk_at "bw"
  have hc : Bd 25 (p * p - q * q * d) := by walk_at "bw"
  have apos : 0 < r * r := Int.mul_pos r0 r0
  have disc : (-2 * p * r) * (-2 * p * r) - 4 * (r * r) * (p * p - q * q * d) = (2 * r * q) * (2 * r * q) * d := by grind
  generalize r * r = a at *
  generalize -2 * p * r = b at *
  generalize p * p - q * q * d = c at *
  have gn : Int.gcd (Int.gcd a b : Int) c ≠ 0 := fun z => by
    have := (Int.gcd_eq_zero_iff.mp z).1
    have := (Int.gcd_eq_zero_iff.mp (show Int.gcd a b = 0 by omega)).1
    omega
  have gp : 0 < g3 a b c := by unfold g3; omega
  have d1 : g3 a b c ∣ a := Int.dvd_trans (Int.gcd_dvd_left ..) (Int.gcd_dvd_left ..)
  have d2 : g3 a b c ∣ b := Int.dvd_trans (Int.gcd_dvd_left ..) (Int.gcd_dvd_right ..)
  have d3 : g3 a b c ∣ c := Int.gcd_dvd_right ..
  have s1 : Bd 25 (a.fdiv (g3 a b c)) := by
    rw [Int.fdiv_eq_ediv_of_dvd d1]
    exact Nat.lt_of_le_of_lt (Int.natAbs_ediv_le_natAbs ..) ha
  have s2 : Bd 25 (b.fdiv (g3 a b c)) := by
    rw [Int.fdiv_eq_ediv_of_dvd d2]
    exact Nat.lt_of_le_of_lt (Int.natAbs_ediv_le_natAbs ..) hb
  have s3 : Bd 25 (c.fdiv (g3 a b c)) := by
    rw [Int.fdiv_eq_ediv_of_dvd d3]
    exact Nat.lt_of_le_of_lt (Int.natAbs_ediv_le_natAbs ..) hc
  have e1 : a = g3 a b c * a.fdiv (g3 a b c) := by rw [Int.fdiv_eq_ediv_of_dvd d1, Int.mul_ediv_cancel' d1]
  have e2 : b = g3 a b c * b.fdiv (g3 a b c) := by rw [Int.fdiv_eq_ediv_of_dvd d2, Int.mul_ediv_cancel' d2]
  have e3 : c = g3 a b c * c.fdiv (g3 a b c) := by rw [Int.fdiv_eq_ediv_of_dvd d3, Int.mul_ediv_cancel' d3]
  have hg : g3 a b c = ((Int.gcd (Int.gcd a b : Int) c : Nat) : Int) := rfl
  generalize g3 a b c = g at *
  generalize a.fdiv g = a' at *
  generalize b.fdiv g = b' at *
  generalize c.fdiv g = c' at *
  have k1 : Int.gcd (Int.gcd a b : Int) c = g.natAbs * Int.gcd (Int.gcd a' b' : Int) c' := by
    rw [e1, e2, e3, Int.gcd_mul_left]
    have : ((g.natAbs * Int.gcd a' b' : Nat) : Int) = g * (Int.gcd a' b' : Int) := by
      rw [Int.natCast_mul, Int.natAbs_of_nonneg (Int.le_of_lt gp)]
    rw [this, Int.gcd_mul_left]
  have gg1 : Int.gcd (Int.gcd a' b' : Int) c' = 1 := by
    have e : g.natAbs = Int.gcd (Int.gcd a b : Int) c := by omega
    rw [e] at k1
    exact (Nat.eq_of_mul_eq_mul_left (Nat.pos_of_ne_zero gn) (by omega)).symm
  have ap : 1 ≤ a' := by
    rcases Int.lt_trichotomy a' 0 with z | z | z
    · have := Int.mul_neg_of_pos_of_neg gp z
      omega
    · rw [z, Int.mul_zero] at e1
      omega
    · omega
  have dd : g * g * (b' * b' - 4 * a' * c') = (2 * r * q) * (2 * r * q) * d := by
    rw [← disc]
    rw [e1, e2, e3]
    grind
  have rq : 2 * r * q ≠ 0 := Int.mul_ne_zero (by omega) q0
  have rqp : 0 < (2 * r * q) * (2 * r * q) := by
    rcases Int.lt_or_gt_of_ne rq with z | z
    · exact Int.mul_pos_of_neg_of_neg z z
    · exact Int.mul_pos z z
  have Dp : 0 < b' * b' - 4 * a' * c' := by
    have h : 0 < g * g * (b' * b' - 4 * a' * c') := by rw [dd]; exact Int.mul_pos rqp d0
    refine Int.not_le.mp fun z => ?_
    have z' := Int.mul_le_mul_of_nonneg_left z (show 0 ≤ g * g by have := Int.mul_pos gp gp; omega)
    rw [Int.mul_zero] at z'
    omega
  refine ⟨s1, s2, s3, ap, by split <;> simp, gg1, Dp, fun z => ?_⟩
  refine nd (sq_of (c := 2 * r * q) (w := g * (isq (b' * b' - 4 * a' * c').toNat : Int)) rq (Int.le_of_lt d0) ?_)
  rw [← dd]
  have z' : ((isq (b' * b' - 4 * a' * c').toNat : Nat) : Int) * (isq (b' * b' - 4 * a' * c').toNat : Int) = b' * b' - 4 * a' * c' := by
    rw [← Int.natCast_mul, z, Int.toNat_of_nonneg (Int.le_of_lt Dp)]
  generalize ((isq (b' * b' - 4 * a' * c').toNat : Nat) : Int) = w at z'
  rw [← z']
  grind
theorem e38r {W n : Nat} {p q r d : Int} (hp : Bd 8 p) (hq : Bd 8 q) (hr : Bd 8 r) (hd : Bd 5 d) (r0 : 0 < r) (q0 : q ≠ 0) (d0 : 0 < d) (nd : isq d.toNat * isq d.toNat ≠ d.toNat) (hW : 2 ^ 8000 ≤ W) (h : Hh) : evN (PW W) (n + 3) true 38 [.tup [.int p, .int q, .int r, .int d]] h = .ok (IN (rtF p q r d)) h := by
  refine callP (d := d38) (h1 := []) rfl rfl rfl rfl rfl rfl (q_go ?_)
  dsimp only [d38, List.map, List.replicate, Nat.sub, List.cons_append, List.nil_append]
  have t36 := fun h => e36i (W := W) (n := n + 1) (Int.le_of_lt d0) hd (by decide) hW h
  have nb := isq_bd (Int.le_of_lt d0) hd
  have hw : ∀ {x : Int}, Bd 40 x → x.natAbs < W := fun hx => Nat.lt_of_lt_of_le hx (Nat.le_trans (Nat.pow_le_pow_right (by decide) (by decide)) hW)
  have b1 : Bd 40 (-2 * p * r) := by walk_at "bw"
  have b2 : Bd 40 (p * p - q * q * d) := by walk_at "bw"
  have w1 := hw b1
  have w2 := hw b2
  have t1 := fun h => e34 (W := W) (n := n + 1) (x := r * r) (y := -2 * p * r) w1 h
  have t2 := fun h => e34 (W := W) (n := n + 1) (x := (Int.gcd (r * r) (-2 * p * r) : Int)) (y := p * p - q * q * d) w2 h
  have nsq : ¬ ((isq d.toNat : Nat) : Int) * (isq d.toNat : Int) = d := fun z => nd (by omega)
  have gn : ((Int.gcd (Int.gcd (r * r) (-2 * p * r) : Int) (p * p - q * q * d) : Nat) : Int) ≠ 0 := fun z => by
    have := (Int.gcd_eq_zero_iff.mp (show Int.gcd (Int.gcd (r * r) (-2 * p * r) : Int) (p * p - q * q * d) = 0 by omega)).1
    have := (Int.gcd_eq_zero_iff.mp (show Int.gcd (r * r) (-2 * p * r) = 0 by omega)).1
    have := Int.mul_pos r0 r0
    omega
  have gle : Int.gcd (Int.gcd (r * r) (-2 * p * r) : Int) (p * p - q * q * d) ≤ (r * r).natAbs := by
    have rr := Int.mul_pos r0 r0
    have a1 : Int.gcd (Int.gcd (r * r) (-2 * p * r) : Int) (p * p - q * q * d) ∣ Int.gcd (r * r) (-2 * p * r) := by
      have := Int.gcd_dvd_natAbs_left (Int.gcd (r * r) (-2 * p * r) : Int) (p * p - q * q * d)
      simpa using this
    have a2 := Int.gcd_dvd_natAbs_left (r * r) (-2 * p * r)
    exact Nat.le_of_dvd (by omega) (Nat.dvd_trans a1 a2)
  have rb : Bd 40 (r * r) := by walk_at "bw"
  have dk : DivOk ((Int.gcd (Int.gcd (r * r) (-2 * p * r) : Int) (p * p - q * q * d) : Nat) : Int) := divOk_bd gn (bdW (show Bd 40 ((Int.gcd (Int.gcd (r * r) (-2 * p * r) : Int) (p * p - q * q * d) : Nat) : Int) from Nat.lt_of_le_of_lt gle rb) rfl)
  have m22 : Bd 2 (-2 : Int) := by decide
  have m5 : EV.MulOk (isq d.toNat : Int) (isq d.toNat : Int) := by walk_at "mk"
  unfold rtF IN g3
  have rd : decide (0 < r) = true := decide_eq_true r0
  by_cases hq0 : 0 < q
  · rw [if_pos hq0]
    exists t36, t1, t2
  · rw [if_neg hq0]
    exists t36, t1, t2
theorem e38f {W n : Nat} {p q r d : Int} (hp : Bd 8 p) (hq : Bd 8 q) (hr : Bd 8 r) (hd : Bd 5 d) (r0 : 0 < r) (d0 : 0 ≤ d) (nd : q = 0 ∨ isq d.toNat * isq d.toNat = d.toNat) (hW : 2 ^ 8000 ≤ W) (h : Hh) : ∃ t b : Int, evN (PW W) (n + 3) true 38 [.tup [.int p, .int q, .int r, .int d]] h = .ok (I2 (rateF t b)) h ∧ b ≠ 0 ∧ Bd 25 t ∧ Bd 25 b := by
  have t36 := fun h => e36i (W := W) (n := n + 1) d0 hd (by decide) hW h
  have nb := isq_bd d0 hd
  refine ⟨p + q * (if q = 0 then 0 else (isq d.toNat : Int)), r, ?_, by omega, ?_, bdW hr rfl⟩
  · refine callP (d := d38) (h1 := []) rfl rfl rfl rfl rfl rfl (q_go ?_)
    dsimp only [d38, List.map, List.replicate, Nat.sub, List.cons_append, List.nil_append]
    have t35 := fun h => e35 (W := W) (n := n) (t := p + q * (if q = 0 then 0 else (isq d.toNat : Int))) (b := r) (by omega) (bdW hr rfl) hW h
    have m5 : EV.MulOk (isq d.toNat : Int) (isq d.toNat : Int) := by walk_at "mk"
    by_cases q0 : q = 0
    · rw [if_pos q0] at t35 ⊢
      exists t36, t35
    · rw [if_neg q0] at t35 ⊢
      have nsq : ((isq d.toNat : Nat) : Int) * (isq d.toNat : Int) = d := by
        rw [← Int.natCast_mul, nd.resolve_left q0, Int.toNat_of_nonneg d0]
      exists t36, t35
  · by_cases q0 : q = 0
    · rw [if_pos q0]
      walk_at "bw"
    · rw [if_neg q0]
      walk_at "bw"
theorem eq_self {x : Nm} (h : Hh) : EV.cmpV .NotEq (IN x) (IN x) h = .ok (.bl false) h := by
  cases x with
  | fr t b =>
    show (match eqD h (IN (.fr t b)) (IN (.fr t b)) with
      | some b => Rz.ok (PV.bl (!b)) h
      | none => .err) = _
    have e : eqD h (IN (.fr t b)) (IN (.fr t b)) = some true := by
      show (if (SeqAt.shaped (.tuple [.int t, .int b]) && SeqAt.shaped (.tuple [.int t, .int b])) = true then some (PyData.eqv (.tuple [.int t, .int b]) (.tuple [.int t, .int b])) else none) = _
      rw [if_pos (by rfl)]
      simp [PyData.eqv, PyData.eqvAll]
    rw [e]; rfl
  | rt a b c s =>
    show (match eqD h (IN (.rt a b c s)) (IN (.rt a b c s)) with
      | some b => Rz.ok (PV.bl (!b)) h
      | none => .err) = _
    have e : eqD h (IN (.rt a b c s)) (IN (.rt a b c s)) = some true := by
      show (if (SeqAt.shaped (.tuple [.int a, .int b, .int c, .int s]) && SeqAt.shaped (.tuple [.int a, .int b, .int c, .int s])) = true then some (PyData.eqv (.tuple [.int a, .int b, .int c, .int s]) (.tuple [.int a, .int b, .int c, .int s])) else none) = _
      rw [if_pos (by rfl)]
      simp [PyData.eqv, PyData.eqvAll]
    rw [e]; rfl
/-- told: a number that is right -/
theorem e38 {W n : Nat} {p q r d : Int} (hp : Bd 8 p) (hq : Bd 8 q) (hr : Bd 8 r) (hd : Bd 5 d) (r0 : 0 < r) (d0 : 0 ≤ d) (hW : 2 ^ 8000 ≤ W) (h : Hh) : ∃ x, evN (PW W) (n + 3) true 38 [.tup [.int p, .int q, .int r, .int d]] h = .ok (IN x) h ∧ OkN x := by
  by_cases nd : q = 0 ∨ isq d.toNat * isq d.toNat = d.toNat
  · obtain ⟨t, b, e, b0, b1, b2⟩ := e38f (W := W) (n := n) hp hq hr hd r0 d0 nd hW h
    exact ⟨.fr (rateF t b).1 (rateF t b).2, e, fr_ok b0 b1 b2⟩
  · have q0 : q ≠ 0 := fun z => nd (.inl z)
    have nd' : isq d.toNat * isq d.toNat ≠ d.toNat := fun z => nd (.inr z)
    have dp : 0 < d := by
      rcases Int.lt_or_eq_of_le d0 with z | z
      · exact z
      · exfalso
        subst z
        exact nd' (by rw [show isq (0 : Int).toNat = 0 from isq_uniq (by decide) (by decide)]; rfl)
    exact ⟨_, e38r hp hq hr hd r0 q0 dp nd' hW h, rt_ok hp hq hr hd r0 q0 dp nd'⟩
theorem part_bd {v : PV} (h : Part v) : ∃ a b : Int, v = I2 (a, b) ∧ Bd 4 a ∧ Bd 4 b ∧ 0 < b := by
  obtain ⟨t, b, rfl, h1, h2, h3, h4⟩ := h
  have n : b ≠ 0 := by omega
  have r := rate_bd (t := t) (k := 4) n (show t.natAbs < 2 ^ 4 by omega) (show b.natAbs < 2 ^ 4 by omega)
  exact ⟨_, _, rfl, r.1, r.2, rate_pos n⟩
def ds : List PV := [.int 0, .int 2, .int 3, .int 5, .int 8, .int 11, .int 15]
theorem e49 {W n k p : Nat} {H : Hh} (hp : PH k p H) (hk : k ≤ 980) (hW : 2 ^ 8000 ≤ W) : ∃ v H', evN (PW W) (n + 5) true 49 [.ref p] H = .ok v H' ∧ (∃ x, v = IN x ∧ OkN x) ∧ PH (k + 7) p H' ∧ Fr p H H' := by
  refine pot_run (d := d49) hp rfl rfl rfl fun a b c hp => ?_
  obtain ⟨v1, h1, e1, q1, ph1, f1⟩ := e48 (W := W) (n := n) hp (by omega) hW
  obtain ⟨v2, h2, e2, q2, ph2, f2⟩ := e48 (W := W) (n := n) ph1 (by omega) hW
  have l2 := ph2.lt
  have ph2' := ph2.app [.lst false ds]
  have hq : (h2 ++ [HV.lst false ds])[h2.length]? = some (.lst false ds) := by
    rw [List.getElem?_append_right (Nat.le_refl _), Nat.sub_self]; rfl
  obtain ⟨v3, h3, e3, m3, ph3, f3⟩ := e29 (W := W) (n := n + 2) ph2' hq (by omega) rfl (by omega) (by decide) (by decide)
  obtain ⟨d, rfl, dd0, dd1⟩ : ∃ d : Int, v3 = .int d ∧ 0 ≤ d ∧ Bd 5 d := by
    unfold ds at m3
    simp only [List.mem_cons, List.not_mem_nil, or_false] at m3
    rcases m3 with z | z | z | z | z | z | z <;> exact ⟨_, z, by decide, by decide⟩
  obtain ⟨a1, b1, rfl, x1, x2, x3⟩ := part_bd q1
  obtain ⟨a2, b2, rfl, y1, y2, y3⟩ := part_bd q2
  obtain ⟨x, e4, okx⟩ := e38 (W := W) (n := n + 1) (p := a1 * b2) (q := a2 * b1) (r := b1 * b2) (bdMul x1 y2) (bdMul y1 x2) (bdMul x2 y2) dd1 (Int.mul_pos x3 y3) dd0 hW h3
  have m1 : EV.MulOk a1 b2 := by walk_at "mk"
  have m2 : EV.MulOk a2 b1 := by walk_at "mk"
  have m3 : EV.MulOk b1 b2 := by walk_at "mk"
  refine ⟨IN x, h3, ok_run rfl rfl (q_go ?_), IN_pure x, ⟨x, rfl, okx⟩, ph3.mono (by omega)⟩
  dsimp only [d49, List.map, List.replicate, Nat.sub, List.cons_append, List.nil_append]
  refine q_par2 (x := I2 (a1, b1)) (y := I2 (a2, b2)) (h2 := h2) ?_ ?_
  · refine a_cons (h2 := h1) (v_call (vs := [.ref 0, .int 9]) (h2 := [PotV a b c]) ?_ e1) (a_cons (h2 := h2) (v_call (vs := [.ref 0, .int 9]) (h2 := h1) ?_ e2) a_nil)
    · walk_at "evs"
    · walk_at "evs"
  refine q_asg (v := .int d) (h2 := h3) (h4 := h3) (ρ1 := [some (.ref 0), some (.int d), some (I2 (a1, b1)), some (I2 (a2, b2))]) (v_call (vs := [.ref 0, .ref h2.length]) (h2 := h2 ++ [.lst false ds]) ?_ e3) g_tn ?_
  · refine a_cons (h2 := h2) (v_var rfl) (a_cons (v_lst (vs := ds) ?_ (le_sz rfl)) a_nil)
    unfold ds
    walk_at "evs"
  · refine q_ret (v_call (h2 := h3) ?_ e4)
    walk_at "evs"
/-! ### what is shown -/
theorem str_int_len {i : Int} (h : Bd 1867 i) : (PyData.shown (.int i)).length ≤ 1001 := by
  have h2 : i.natAbs < 10 ^ 1000 := Nat.lt_trans h (by decide +kernel)
  show (Str.ofString (toString i)).length ≤ 1001
  rw [ofString_len]
  cases i with
  | ofNat m =>
    have := digits10_le (k := 1000) (n := m) (by decide) h2
    have e : (toString (Int.ofNat m)).length = (Nat.toDigits 10 m).length := by
      show (Nat.repr m).length = _
      simp [Nat.repr]
    omega
  | negSucc m =>
    have := digits10_le (k := 1000) (n := m + 1) (by decide) h2
    have e : (toString (Int.negSucc m)).length = 1 + (Nat.toDigits 10 (m + 1)).length := by
      show ("-" ++ Nat.repr (m + 1)).length = _
      rw [String.length_append]
      simp [Nat.repr]
      decide
    omega
theorem int_ok {i : Int} (h : Bd 1867 i) : PyData.showable (.int i) = true := by
  show decide (i.natAbs.log2 < 1920) = true
  refine decide_eq_true ?_
  by_cases z : i.natAbs = 0
  · rw [z]; decide
  · exact Nat.lt_trans ((Nat.log2_lt z).mpr h) (by decide)
theorem repr_int {i : Int} (hi : Bd 1867 i) : ∃ s, ∀ h, reprV (.int i) h = .ok (.str s) h := by
  refine ⟨PyData.shown (.int i), fun h => ?_⟩
  show (if showOk (.int i) = true then Rz.ok (PV.str (PyData.shown (.int i))) h else .err) = _
  rw [if_pos]
  have l := str_int_len hi
  unfold showOk
  rw [int_ok hi, show dictOk (.int i) = true from rfl, decide_eq_true (Nat.le_trans l (by rw [sizeLine_eq]; decide)), decide_eq_true (show PyData.depth (.int i) ≤ 60 from by show 0 ≤ 60; decide)]
  rfl
theorem repr_I2 {p : Int × Int} (hp : Bd2 1867 p) : ∃ s, ∀ h, reprV (I2 p) h = .ok (.str s) h := by
  refine ⟨PyData.shown (.tuple [.int p.1, .int p.2]), fun h => ?_⟩
  show (if showOk (.tuple [.int p.1, .int p.2]) = true then Rz.ok (PV.str (PyData.shown (.tuple [.int p.1, .int p.2]))) h else .err) = _
  rw [if_pos]
  have l1 := str_int_len hp.1
  have l2 := str_int_len hp.2
  have l : (PyData.shown (.tuple [.int p.1, .int p.2])).length ≤ 2100 := by
    have t := tupleText_len_le [PyData.shown (.int p.1), PyData.shown (.int p.2)]
    have e : PyData.shown (.tuple [.int p.1, .int p.2]) = tupleText [PyData.shown (.int p.1), PyData.shown (.int p.2)] := by
      simp only [PyData.shown, PyData.shownAll]
    rw [e]
    simp only [List.map_cons, List.map_nil, List.sum_cons, List.sum_nil, List.length_cons, List.length_nil] at t
    omega
  have s : PyData.showable (.tuple [.int p.1, .int p.2]) = true := by
    show (PyData.showable (.int p.1) && (PyData.showable (.int p.2) && true)) = true
    rw [int_ok hp.1, int_ok hp.2]; rfl
  unfold showOk
  rw [s, show dictOk (.tuple [.int p.1, .int p.2]) = true from rfl, decide_eq_true (Nat.le_trans l (by rw [sizeLine_eq]; decide)), decide_eq_true (show PyData.depth (.tuple [.int p.1, .int p.2]) ≤ 60 from by simp [PyData.depth, PyData.depthAll])]
  rfl
theorem callX0 {W n f c : Nat} {d : Fd} {args : List PV} {v : PV} {h : Hh} (hd : prog.fns[f]? = some d) (hl : args.length = d.np) (hfl : d.flag = false) (hcd : d.capd = []) (ha : PV.pures args = true) (hv : v.pure = true)
    (e : (ev (cf W n) d.body).s (args.map some ++ List.replicate (d.ns - d.np) none) [] = .ex c v []) : evN (PW W) (n + 1) true f args h = .ex c v h := by
  show (match (PW W).fns[f]? with
    | some d => if args.length = d.np then runF (PW W) (evN (PW W) n true) (fun k cs vs h => evN (PW W) n false k (cs ++ vs) h) d args h else .err
    | none => .err) = _
  rw [show (PW W).fns[f]? = some d from hd]
  dsimp only
  rw [if_pos hl]
  unfold runF lcl
  rw [grab_pure ha, hfl, hcd]
  dsimp only
  rw [e]
  show Rz.ex c (v.bak [] h.length) (h ++ []) = _
  rw [pure_bak _ _ _ hv, List.append_nil]
/-- a lambda that calls a def with what it has caught -/
theorem lam0 {W n : Nat} {x y : PV} {h : Hh} : evN (PW W) (n + 1) false 0 [x, y] h = evN (PW W) n true 25 [x, y] h := by rfl
theorem heard_eq {W n k : Nat} {cs : List PV} {h : Hh} : evN (PW W) (n + 1) true 31 [.clo k cs] h = endS false ((ev (cf W n) d31.body).s [some (.clo k cs), none, none, none] h) := by
  have g : grab h [.clo k cs] = none := by
    unfold grab
    split
    · rename_i m hm
      split
      · rw [show PV.rens m [.clo k cs] = none from rfl]
      · rfl
    · rfl
  show (match (PW W).fns[31]? with
    | some d => if [PV.clo k cs].length = d.np then runF (PW W) (evN (PW W) n true) (fun k cs vs h => evN (PW W) n false k (cs ++ vs) h) d [PV.clo k cs] h else .err
    | none => .err) = _
  rw [show (PW W).fns[31]? = some d31 from rfl]
  dsimp only
  rw [if_pos (show [PV.clo k cs].length = d31.np from rfl)]
  unfold runF lcl
  rw [g]
  rfl
theorem try_ex {W n i j k c d : Nat} {e : T} {ρ : En} {h h2 : Hh} {v : PV} (he : (ev (cf W n) e).e ρ h = .ex d v h2) (hs : prog.sub d c = true) : (ev (cf W n) (.try1 i j k c e)).s ρ h = .ok (.nx ((ρ.set j (some (.exc false d v))).set k none)) h2 := by
  show (match (ev (cf W n) e).e ρ h with
    | .ok v h => Rz.ok (Fl.nx (ρ.set i (some v))) h
    | .ex d v h => if prog.sub d c then .ok (.nx ((ρ.set j (some (.exc false d v))).set k none)) h else .err
    | .err => .err) = _
  rw [he]
  dsimp only
  rw [hs]; rfl
theorem clov_eq {W n i k : Nat} {cs : List PV} {ρ : En} {h : Hh} (hs : slot ρ i = some (.clo k cs)) : (ev (cf W n) (.clov i .nil)).e ρ h = evN (PW W) n false k (cs ++ []) h := by
  show (match slot ρ i with
    | some (.clo k caps) => (Rz.ok ([] : List PV) h).bnd fun vs h => evN (PW W) n false k (caps ++ vs) h
    | _ => .err) = _
  rw [hs]; rfl
theorem e25x' {W n : Nat} {x y : Nm} (ok : OkN x) (ok' : OkN y) (hc : ¬ cmpF (lfF x) (lfF y) < 0) (hW : 2 ^ 8000 ≤ W) (h : Hh) : evN (PW W) (n + 6) true 25 [IN x, IN y] h = .ex 3 (IN y) h := by
  have t1 := fun h => e16 (W := W) (n := n) ok hW h
  have t1' := fun h => e16 (W := W) (n := n) ok' hW h
  have t2 := fun h => e17 (W := W) (n := n + 2) ok hW h
  have t2' := fun h => e17 (W := W) (n := n + 2) ok' hW h
  have t3 := fun h => e19 (W := W) (n := n + 1) ((el_bd ok).b6 rfl).be ((el_bd ok').b6 rfl).be h
  rw [← sb_cmp (rp_el ok) (rp_el ok')] at hc
  have nc : 0 ≤ sb (elF x) (elF y) := by omega
  refine callX0 (d := d25) rfl rfl rfl rfl (IN2_pure x y) (IN_pure y) (q_go ?_)
  dsimp only [d25, List.map, List.replicate, Nat.sub, List.cons_append, List.nil_append]
  walk_at "ev0"
  · exists t1
  walk_at "ev0"
  · exists t1'
  refine q_iffT' (kk := decide (0 ≤ sb (elF x) (elF y))) (h2 := []) ?_ (decide_eq_true nc) ?_
  · exists t2, t2', t3
  · walk_at "evs"
theorem e31 {W n : Nat} {x y : Nm} (ok : OkN x) (ok' : OkN y) (hc : ¬ cmpF (lfF x) (lfF y) < 0) (hW : 2 ^ 8000 ≤ W) (h : Hh) : evN (PW W) (n + 8) true 31 [.clo 0 [IN x, IN y]] h = .ok (.tup [.exc false 3 (IN y), .non]) h := by
  have t25 := fun h => e25x' (W := W) (n := n) ok ok' hc hW h
  rw [heard_eq]
  have e : (ev (cf W (n + 7)) d31.body).s [some (.clo 0 [IN x, IN y]), none, none, none] h = .ok (.rt (.tup [.exc false 3 (IN y), .non])) h := by
    refine q_go ?_
    dsimp only [d31, List.map, List.replicate, Nat.sub, List.cons_append, List.nil_append]
    refine q_asg (v := .tup [.non, .non]) (h2 := h) (h4 := h) (ρ1 := [some (.clo 0 [IN x, IN y]), none, some .non, some .non]) ?_ ?_ ?_
    · walk_at "evs"
    · walk_at "evs"
    rw [q_cons, try_ex (d := 3) (v := IN y) (h2 := h) ?_ rfl]
    · show SQ (cf W (n + 7)) _ [some (.clo 0 [IN x, IN y]), none, some (.exc false 3 (IN y)), some .non] h = _
      walk_at "evs"
    · rw [clov_eq (k := 0) (cs := [IN x, IN y]) rfl]
      exact lam0.trans (t25 h)
  rw [e]; rfl
theorem e32 {W n : Nat} {a : Bool} (h : Hh) : evN (PW W) (n + 1) true 32 [.bl a, .bl a] h = .ok (.bl true) h := by
  refine callP (d := d32) (h1 := []) rfl rfl rfl rfl rfl rfl (q_go ?_)
  dsimp only [d32, List.map, List.replicate, Nat.sub, List.cons_append, List.nil_append]
  refine q_ret ?_
  refine v_an (k := true) (l := true) (h2 := []) ?_ fun _ => ?_
  · walk_at "evs"
  · rw [← decide_eq_true (Eq.refl a)]
    walk_at "evs"
section
local macro_rules | `(tactic| walk_at "fv0") => `(tactic| with_reducible (first | apply K01F.v_var | apply K01F.v_cst | apply K01F.v_bin | apply K01F.v_idx | apply K01F.v_call | apply K01F.v_callk | apply K01F.v_cmp | apply K01F.v_tup | apply K01F.v_neg | apply K01F.v_nt | apply K01F.v_an | apply K01F.v_oo | apply K01F.v_isi | apply K01F.v_glb | apply K01F.v_bit | apply K01F.v_abs | apply K01F.v_lenT | apply K01F.v_attr | apply K01F.v_isx | apply K01F.v_lam | apply K01F.v_lst | apply K01F.v_intB (a := .cmp _ _ _) | apply K01F.v_intI | apply K01F.a_nil | apply K01F.a_cons | apply K01F.t_nt | apply K01F.t_an | apply K01F.t_oo | apply K01F.t_cmp | apply K01F.t_chn | apply K01F.t_var | apply K01F.t_call | apply K01F.t_cst | apply K01F.t_blt | apply K01F.t_isi | apply K01F.t_isx | apply K01F.g_tn | apply K01F.q_nil | apply K01F.q_ret | apply K01F.q_asg | apply K01F.q_xpr | apply K01F.q_rse | apply K01F.q_par2 | apply K01F.q_end | apply bi_add | apply bi_sub | apply bi_mul | apply bi_div | apply bi_mod | apply bi_pow | apply bi_subB | apply c_lt | apply c_le | apply c_gt | apply c_ge | apply c_eq | apply c_ne | apply c_eqB | apply c_eqS | apply c_neS | apply c_in2))
local macro_rules | `(tactic| walk_at "smF") => `(tactic| first
  | ((with_reducible show slot _ _ = _); rfl)
  | ((with_reducible show idxV _ _ _ = _); rfl)
  | ((with_reducible show isV _ _ _ = _); rfl)
  | (refine And.intro (show List.length _ = T.len _ by rfl) (show List.length _ = T.len _ by rfl))
  | ((with_reducible show getAll _ _ = _); rfl)
  | ((with_reducible show List.contains _ _ = _); rfl)
  | ((with_reducible show capVals _ _ = _); rfl)
  | ((with_reducible show _ ≤ sizeLine); exact le_sz rfl)
  | ((with_reducible show K01.SQ _ [] _ _ = _); exact K01F.q_end)
  | ((with_reducible show EV.Ev.g (EV.ev _ (T.tn _)) _ _ _ = _); apply K01F.g_tn)
  | ((with_reducible show EV.MulOk _ _); assumption)
  | ((with_reducible show DivOk _); assumption)
  | ((with_reducible show PowOk _ _); assumption)
  | ((with_reducible show _ ≠ _); assumption)
  | ((with_reducible show ¬ _); assumption)
  | ((with_reducible show _ < _); assumption))
local macro_rules | `(tactic| walk_at "fvs") => `(tactic| ((repeat' (first | walk_at "fv0" | walk_at "smF" | ((with_reducible apply K01F.q_iffT'); (focus (walk_at "fvs"; done)); (focus (walk_at "kn"; done))) | ((with_reducible apply K01F.q_iffF'); (focus (walk_at "fvs"; done)); (focus (walk_at "kn"; done))) | intro _)); (all_goals (first | walk_at "mk" | walk_at "bw" | assumption | skip))))
local macro_rules | `(tactic| exists $ts,*) => do
    let alts ← ts.getElems.mapM fun t => `(tacticSeq| with_reducible apply $t)
    let alt2 ← ts.getElems.mapM fun t => `(tacticSeq| ((with_reducible show EV.evN _ _ _ _ _ _ = _); apply $t))
    `(tactic| ((repeat' (first | walk_at "fv0" | walk_at "smF" | ((with_reducible apply K01F.q_iffT'); (focus (exists $ts,*; done)); (focus (walk_at "kn"; done))) | ((with_reducible apply K01F.q_iffF'); (focus (exists $ts,*; done)); (focus (walk_at "kn"; done))) $[| $alts]* | intro _ $[| $alt2]*)); (all_goals (first | walk_at "mk" | walk_at "bw" | assumption | skip))))
theorem killH_pot {a b c : Int} : (fun o : HV => if o.noClo then o else .dead) (PotV a b c) = PotV a b c := rfl
theorem PH.kill {k p : Nat} {H : Hh} (h : PH k p H) : PH k p (killH H) := by
  obtain ⟨a, b, c, e, r⟩ := h
  refine ⟨a, b, c, ?_, r⟩
  unfold killH
  rw [List.getElem?_map, e]
  rfl
theorem w_int {W n : Nat} {cd : List Nat} {ρ : En} {h : Hh} {a : T} {i j : Int} (h1 : (ev (ct W n cd) a).e ρ h = .ok (.int i) h) (e : i = j) : (ev (ct W n cd) a).e ρ h = .ok (.int j) h := by rw [h1, e]
/-- one pair of numbers is right -/
theorem pair_b {W n k : Nat} {x y : Nm} (ok : OkN x) (ok' : OkN y) (hk : k ≤ 990) (hW : 2 ^ 8000 ≤ W) {a b c : Int} (hp : PH k 0 [PotV a b c]) : ∃ h1, (ev (ct W (n + 8) [1, 2]) d51.body).s [some (.ref 0), some (IN x), some (IN y), none, none, none, none, none] [PotV a b c] = .ok (.rt (.bl true)) h1 ∧ PH (k + 2) 0 h1 := by
  have ax := fd2_ok ok
  have ay := fd2_ok ok'
  have bnx : BN 1000 x := by
    cases x with
    | fr t b => exact ⟨bdW ok.1 rfl, bdW ok.2.1 rfl⟩
    | rt a b c s => exact ⟨bdW ok.1 rfl, bdW ok.2.1 rfl, bdW ok.2.2.1 rfl, by rcases ok.2.2.2.2.1 with z | z <;> subst z <;> decide⟩
  have bny : BN 1000 y := by
    cases y with
    | fr t b => exact ⟨bdW ok'.1 rfl, bdW ok'.2.1 rfl⟩
    | rt a b c s => exact ⟨bdW ok'.1 rfl, bdW ok'.2.1 rfl, bdW ok'.2.2.1 rfl, by rcases ok'.2.2.2.2.1 with z | z <;> subst z <;> decide⟩
  have t37 := fun h => e37 (W := W) (n := n + 7) bnx h
  have t37' := fun h => e37 (W := W) (n := n + 7) bny h
  have t47 := fun h => e47 (W := W) (n := n + 3) ok ok' hW h
  have t21 := fun h => e21 (W := W) (n := n + 2) ok ok' hW h
  have t21' := fun h => e21 (W := W) (n := n + 2) ok' ok hW h
  have t20 := fun h => e20 (W := W) (n := n + 2) ok ok' hW h
  rw [sb_cmp (rp_el ok) (rp_el ok')] at t21 t20
  rw [sb_cmp (rp_el ok') (rp_el ok), cmp_swap ax.d0 ay.d0] at t21'
  have t22 := fun h => e22 (W := W) (n := n + 2) ok (tw_el ok) hW h
  have f1b : Bd 540 (1 : Int) := bdW bd1 rfl
  have t46 := fun h => e46 (W := W) (n := n + 6) (BL_ok ok) f1b hW h
  have fb1 : Bd 1865 (floorF (lfF x) 1) := tw_bd ((el_bd ok).b6 rfl) (tw_el ok)
  obtain ⟨sd, hsd⟩ := repr_int (i := cmpF (lfF x) (lfF y)) (by
    rcases s4_val _ _ _ _ _ ax.d0 ay.d0 with z | z | z
    · rw [show cmpF (lfF x) (lfF y) = 1 from z]; exact bdW bd1 rfl
    · rw [show cmpF (lfF x) (lfF y) = 0 from z]; exact bdW bd0 rfl
    · rw [show cmpF (lfF x) (lfF y) = -1 from z]; exact bdW bdm1 rfl)
  obtain ⟨sf, hsf⟩ := repr_int (i := floorF (lfF x) 1) (bdW fb1 rfl)
  -- the draws
  obtain ⟨d, h1, e1, ⟨d0, d1⟩, ph1, f1⟩ := e28 (W := W) (n := n + 7) (u := 1000) (by decide) (by decide) hp (by omega)
  have l1 := ph1.lt
  have ph1' := ph1.app [.lst false [.int 1, .int 2, .int 10, .int (1 + d), .int (10 ^ (6 : Int).toNat)]]
  have hq : (h1 ++ [HV.lst false [.int 1, .int 2, .int 10, .int (1 + d), .int (10 ^ (6 : Int).toNat)]])[h1.length]? = some (.lst false [.int 1, .int 2, .int 10, .int (1 + d), .int (10 ^ (6 : Int).toNat)]) := by
    rw [List.getElem?_append_right (Nat.le_refl _), Nat.sub_self]; rfl
  obtain ⟨v2, h2, e2, m2, ph2, f2⟩ := e29 (W := W) (n := n + 6) ph1' hq (by omega) rfl (by omega) (show 0 < 5 by decide) (show 5 < 1000 by decide)
  obtain ⟨f, rfl, ff1, ff2⟩ : ∃ f : Int, v2 = .int f ∧ 1 ≤ f ∧ f ≤ 1000000 := by
    simp only [List.mem_cons, List.not_mem_nil, or_false] at m2
    rcases m2 with z | z | z | z | z
    · exact ⟨_, z, by decide, by decide⟩
    · exact ⟨_, z, by decide, by decide⟩
    · exact ⟨_, z, by decide, by decide⟩
    · exact ⟨_, z, by omega, by omega⟩
    · exact ⟨_, z, by decide, by decide⟩
  have fb : Bd 20 f := by show f.natAbs < 2 ^ 20; omega
  have t24 := fun h => e24 (W := W) (n := n + 2) ok ff1 ff2 (tw_sc ok (by omega)) hW h
  have t46f := fun h => e46 (W := W) (n := n + 6) (f := f) (BL_ok ok) (bdW fb rfl) hW h
  have fbf : Bd 1865 (floorF (lfF x) f) := tw_bd ((sc_bd (el_bd ok) (bdW fb rfl) (by omega)).b6 rfl) (tw_sc ok (by omega))
  have t35 := fun h => e35 (W := W) (n := n + 6) (t := floorF (lfF x) f) (b := f) (by omega) (bdW fb rfl) hW h
  have rb := rate_bd (t := floorF (lfF x) f) (b := f) (k := 1865) (by omega) fbf (bdW fb rfl)
  obtain ⟨sn, hsn⟩ := repr_I2 (p := rateF (floorF (lfF x) f) f) ⟨bdW rb.1 rfl, bdW rb.2 rfl⟩
  refine ⟨killH h2, ?_, ph2.kill.mono (by omega)⟩
  refine K01F.q_go ?_
  unfold d51
  refine K01F.q_par2 (x := IL (lfF x)) (y := IL (lfF y)) (h2 := [PotV a b c]) rfl rfl rfl ?_ ?_
  · exists t37, t37'
  refine K01F.q_asg (v := .int (cmpF (lfF x) (lfF y))) (h2 := [PotV a b c]) (h4 := [PotV a b c]) (ρ1 := [some (.ref 0), some (IN x), some (IN y), some (.int (cmpF (lfF x) (lfF y))), none, some (IL (lfF x)), some (IL (lfF y)), none]) ?_ (K01F.g_tn rfl) ?_
  · exists t47
  refine K01F.q_iffF (h2 := [PotV a b c]) (K01F.t_ooF (h2 := [PotV a b c]) (K01F.t_cmp (k := false) ?_) (K01F.t_nt (k := true) (K01F.t_call ?_))) ?_
  · refine K01F.v_cmp (h2 := [PotV a b c]) (h4 := [PotV a b c]) (x := .str sd) (y := .str sd) (K01F.v_rpI (i := cmpF (lfF x) (lfF y)) ?_ (hsd _)) (K01F.v_rpI (i := cmpF (lfF x) (lfF y)) ?_ (hsd _)) ?_
    · exists t21
    · walk_at "fvs"
    · rw [c_neS]; simp
  · refine K01F.v_call (vs := [.bl (decide (cmpF (lfF x) (lfF y) < 0)), .bl (decide (cmpF (lfF x) (lfF y) < 0))]) (h2 := [PotV a b c]) ?_ (e32 (n := n + 7) _)
    exists t20
  refine K01F.q_nil ?_
  refine K01F.q_iffF (h2 := [PotV a b c]) (K01F.t_cmp (k := false) ?_) ?_
  · refine K01F.v_cmp (h2 := [PotV a b c]) (h4 := [PotV a b c]) (x := .int (-cmpF (lfF x) (lfF y))) (y := .int (-cmpF (lfF x) (lfF y))) ?_ ?_ (c_neF rfl)
    · exists t21'
    · walk_at "fvs"
  refine K01F.q_nil ?_
  -- between
  have btw : (ev (ct W (n + 8) [1, 2]) (.an (.cmp .Lt (.var 3) (.cst (.int 0))) (.cmp .NotEq (.rpx (.callk 25 (.cons (.var 1) .nil) (.cons (.var 2) .nil) [0, 1])) (.rpx (.call 50 (.cons (.var 5) (.cons (.var 6) .nil))))))).t [some (.ref 0), some (IN x), some (IN y), some (.int (cmpF (lfF x) (lfF y))), none, some (IL (lfF x)), some (IL (lfF y)), none] [PotV a b c] = .ok false [PotV a b c] := by
    by_cases hc : cmpF (lfF x) (lfF y) < 0
    · obtain ⟨kb, hkb⟩ := bt_ex ok ok' hc
      have t25 := fun h => e25 (W := W) (n := n + 1) ok ok' hc hkb hW h
      have t50 := fun h => e50 (W := W) (n := n + 2) ok ok' hkb hW h
      obtain ⟨sbt, hsb⟩ := repr_I2 (bt_bd ok hkb.1).1
      refine K01F.t_anT (h2 := [PotV a b c]) (K01F.t_cmp ?_) (K01F.t_cmp (k := false) ?_)
      · rw [← decide_eq_true hc]
        walk_at "fvs"
      · refine K01F.v_cmp (h2 := [PotV a b c]) (h4 := [PotV a b c]) (x := .str sbt) (y := .str sbt) (K01F.v_rpT ?_ (hsb _)) (K01F.v_rpT ?_ (hsb _)) ?_
        · exists t25
        · exists t50
        · rw [c_neS]; simp
    · refine K01F.t_anF (K01F.t_cmp ?_)
      rw [← decide_eq_false hc]
      walk_at "fvs"
  refine K01F.q_iffF btw ?_
  refine K01F.q_nil ?_
  -- what is refused
  have key : ∀ o7 : Option PV, SQ (ct W (n + 8) [1, 2]) [.cons (.asg (.tn 4) (.blt .int (.cons (.call 29 (.cons (.var 0) (.cons (.lst (.cons (.cst (.int 1)) (.cons (.cst (.int 2)) (.cons (.cst (.int 10)) (.cons (.bin .Add (.cst (.int 1)) (.call 28 (.cons (.var 0) (.cons (.cst (.int 1000)) .nil)))) (.cons (.bin .Pow (.cst (.int 10)) (.cst (.int 6))) .nil)))))) .nil))) .nil))) (.cons (.iff (.cmp .NotEq (.rpx (.callk 22 .nil (.cons (.var 1) .nil) [0])) (.rpx (.call 46 (.cons (.var 5) (.cons (.cst (.int 1)) .nil))))) (.cons (.ret (.cst (.bl false))) .nil) .nil) (.cons (.ret (.cmp .Eq (.rpx (.callk 24 (.cons (.var 1) .nil) (.cons (.var 4) .nil) [0, 1])) (.rpx (.call 35 (.cons (.call 46 (.cons (.var 5) (.cons (.var 4) .nil))) (.cons (.var 4) .nil)))))) .nil))]
      [some (.ref 0), some (IN x), some (IN y), some (.int (cmpF (lfF x) (lfF y))), none, some (IL (lfF x)), some (IL (lfF y)), o7] [PotV a b c] = .ok (.rt (.bl true)) (killH h2) := fun o7 => by
    refine K01F.q_asg (v := .int f) (h2 := h2) (h4 := h2) (ρ1 := [some (.ref 0), some (IN x), some (IN y), some (.int (cmpF (lfF x) (lfF y))), some (.int f), some (IL (lfF x)), some (IL (lfF y)), o7]) (K01F.v_intI (K01F.v_call (vs := [.ref 0, .ref h1.length]) (h2 := h1 ++ [.lst false [.int 1, .int 2, .int 10, .int (1 + d), .int (10 ^ (6 : Int).toNat)]]) ?_ e2)) (K01F.g_tn rfl) ?_
    · refine K01F.a_cons (h2 := [PotV a b c]) (K01F.v_var rfl) (K01F.a_cons (K01F.v_lst (h2 := h1) (vs := [.int 1, .int 2, .int 10, .int (1 + d), .int (10 ^ (6 : Int).toNat)]) ?_ (le_sz rfl)) K01F.a_nil)
      refine K01F.a_cons K01F.v_cst (K01F.a_cons K01F.v_cst (K01F.a_cons K01F.v_cst (K01F.a_cons (h2 := h1) ?_ (K01F.a_cons ?_ K01F.a_nil))))
      · refine K01F.v_bin (h2 := [PotV a b c]) (h4 := h1) (x := .int 1) (y := .int d) K01F.v_cst (K01F.v_call (vs := [.ref 0, .int 1000]) (h2 := [PotV a b c]) ?_ e1) bi_add
        walk_at "fvs"
      · have pk : PowOk 10 6 := by decide
        walk_at "fvs"
    refine K01F.q_iffF (h2 := h2) (K01F.t_cmp (k := false) ?_) ?_
    · refine K01F.v_cmp (h2 := h2) (h4 := h2) (x := .str sf) (y := .str sf) (K01F.v_rpI ?_ (hsf _)) (K01F.v_rpI ?_ (hsf _)) ?_
      · exists t22
      · exists t46
      · rw [c_neS]; simp
    refine K01F.q_nil ?_
    refine K01F.q_ret rfl ?_
    refine K01F.v_cmp (h2 := h2) (h4 := h2) (x := .str sn) (y := .str sn) (K01F.v_rpT ?_ (hsn _)) (K01F.v_rpT ?_ (hsn _)) ?_
    · exists t24
    · exists t46f, t35
    · rw [c_eqS]; simp
  by_cases hc : cmpF (lfF x) (lfF y) < 0
  · refine K01F.q_iffF (h2 := [PotV a b c]) (K01F.t_cmp ?_) ?_
    · rw [← decide_eq_false (show ¬ 0 ≤ cmpF (lfF x) (lfF y) by omega)]
      walk_at "fvs"
    refine K01F.q_nil ?_
    exact key none
  · have t31 := fun h => e31 (W := W) (n := n) ok ok' hc hW h
    refine K01F.q_iffT (h2 := [PotV a b c]) (K01F.t_cmp ?_) ?_
    · rw [← decide_eq_true (show 0 ≤ cmpF (lfF x) (lfF y) by omega)]
      walk_at "fvs"
    refine K01F.q_asg (v := .exc false 3 (IN y)) (h2 := [PotV a b c]) (h4 := [PotV a b c]) (ρ1 := [some (.ref 0), some (IN x), some (IN y), some (.int (cmpF (lfF x) (lfF y))), none, some (IL (lfF x)), some (IL (lfF y)), some (.exc false 3 (IN y))]) ?_ (K01F.g_tn rfl) ?_
    · refine K01F.v_idx (h2 := [PotV a b c]) (h4 := [PotV a b c]) (x := .tup [.exc false 3 (IN y), .non]) (y := .int 0) (K01F.v_call (vs := [.clo 0 [IN x, IN y]]) (h2 := [PotV a b c]) ?_ (t31 _)) K01F.v_cst rfl
      refine K01F.a_cons (K01F.v_lam (l := [1, 2]) rfl rfl ?_) K01F.a_nil
      cases x <;> cases y <;> rfl
    refine K01F.q_iffF (h2 := [PotV a b c]) (K01F.t_ooF (h2 := [PotV a b c]) (K01F.t_nt (k := true) (K01F.t_isx ?_)) (K01F.t_cmp (k := false) ?_)) ?_
    · exact K01F.v_isx (b := false) (d := 3) (v := IN y) (K01F.v_var rfl)
    · exact K01F.v_cmp (h2 := [PotV a b c]) (h4 := [PotV a b c]) (K01F.v_attr (b := false) (c := 3) (v := IN y) (K01F.v_var rfl)) (K01F.v_var rfl) (eq_self _)
    refine K01F.q_nil (K01F.q_nil ?_)
    exact key (some (.exc false 3 (IN y)))
theorem e51 {W n k p : Nat} {H : Hh} {x y : Nm} (ok : OkN x) (ok' : OkN y) (hp : PH k p H) (hk : k ≤ 990) (hW : 2 ^ 8000 ≤ W) : ∃ H', evN (PW W) (n + 9) true 51 [.ref p, IN x, IN y] H = .ok (.bl true) H' ∧ PH (k + 2) p H' ∧ Fr p H H' := by
  obtain ⟨v, H', e, rfl, r⟩ := pot_run (W := W) (n := n + 8) (f := 51) (d := d51) (k' := k + 2) (as := [IN x, IN y]) (Q := fun v => v = .bl true) hp rfl rfl (IN2_pure x y) (fun a b c hp => by
    obtain ⟨h1, e, ph⟩ := pair_b (W := W) (n := n) ok ok' hk hW hp
    refine ⟨.bl true, h1, ?_, rfl, rfl, ph⟩
    show endS true ((ev (ct W (n + 8) [1, 2]) d51.body).s [some (.ref 0), some (IN x), some (IN y), none, none, none, none, none] [PotV a b c]) = _
    rw [e]; rfl)
  exact ⟨H', e, r⟩
end
/-- what may be said of a heap, whatever is put behind its first two -/
structure Shp (P : Hh → Prop) : Prop where
  app : ∀ H x, P H → P (H ++ [x])
  set : ∀ H D x, P H → 2 ≤ D → P (H.set D x)
  len : ∀ H, P H → 2 ≤ H.length
theorem comp_sh {W n : Nat} {P : Hh → Prop} (sp : Shp P) {el : T} {ρ0 : En} {j q D : Nat} {xs : List PV} {y : PV} (he : ∀ x ∈ xs, ∀ H, P H → (ev (cf W n) el).e (ρ0.set j (some x)) H = .ok y H) : ∀ (r m k : Nat) (acc : List PV) (H : Hh), xs.length = k + r → r < m → P H → 2 ≤ D → D < H.length → q ≠ D → getL H q = some xs → isFl H D = some acc → acc.length + r < 1000 →
    ∃ H', compL (ev (cf W n) (.tn j)).g (ev (cf W n) .nil).t (ev (cf W n) el).e (.ref q) ρ0 D m k H = .ok (.ref D) H' ∧ P H' ∧ getL H' D = some (acc ++ List.replicate r y) ∧ D < H'.length
  | r, 0, k, acc, H, h1, h2, _, _, _, _, _, _, _ => by omega
  | 0, m + 1, k, acc, H, h1, h2, p, hD, hL, hq, g, f, ha => by
    refine ⟨H, ?_, p, ?_, hL⟩
    · unfold compL
      have : EV.itemAt (.ref q) k H = some none := by
        show (match getL H q with
          | some xs => some xs[k]?
          | none => none) = _
        rw [g]
        exact congrArg some (List.getElem?_eq_none (by omega))
      rw [this]
    · rw [List.replicate_zero, List.append_nil]
      unfold isFl at f
      unfold getL
      split at f
      · rename_i ys e
        rw [e]; exact f
      · cases f
  | r + 1, m + 1, k, acc, H, h1, h2, p, hD, hL, hq, g, f, ha => by
    have hk : k < xs.length := by omega
    have g' : getL (H.set D (.lst false (acc ++ [y]))) q = some xs := by
      unfold getL at g ⊢
      rw [List.getElem?_set_ne (by omega)]
      exact g
    obtain ⟨H', e1, e2, e3, e4⟩ := comp_sh sp he r m (k + 1) (acc ++ [y]) (H.set D (.lst false (acc ++ [y]))) (by omega) (by omega) (sp.set _ _ _ p hD) hD (by rw [List.length_set]; exact hL) hq g' (by unfold isFl; rw [List.getElem?_set_self hL]) (by simp; omega)
    refine ⟨H', ?_, e2, by rw [e3, List.append_assoc, List.replicate_succ]; rfl, e4⟩
    unfold compL
    have : EV.itemAt (.ref q) k H = some (some xs[k]) := by
      show (match getL H q with
        | some xs => some xs[k]?
        | none => none) = _
      rw [g]
      exact congrArg some (List.getElem?_eq_getElem hk)
    rw [this]
    show ((ev (cf W n) (.tn j)).g xs[k] ρ0 H).bnd _ = _
    rw [show (ev (cf W n) (.tn j)).g xs[k] ρ0 H = .ok (ρ0.set j (some xs[k])) H from rfl, bnd_ok, show (ev (cf W n) .nil).t (ρ0.set j (some xs[k])) H = .ok true H from rfl, bnd_ok]
    dsimp only
    rw [he _ (List.getElem_mem hk) _ p, bnd_ok, f]
    dsimp only
    rw [if_pos (by rw [sizeLine_eq]; omega)]
    exact e1
theorem refs_eq {W n : Nat} {q s : Nat} {v : PV} {H : Hh} : evN (PW W) (n + 1) true 33 [.ref q, .clo s [], v] H = endS false ((ev (cf W n) d33.body).s [some (.ref q), some (.clo s []), some v, none, none, none] H) := by
  have g : grab H [.ref q, .clo s [], v] = none := by
    unfold grab
    split
    · rename_i m hm
      split
      · have : PV.rens m [.ref q, .clo s [], v] = none := by
          show (match PV.ren m (.ref q), (match (none : Option PV), PV.rens m [v] with
            | some y, some ys => some (y :: ys)
            | _, _ => none) with
            | some y, some ys => some (y :: ys)
            | _, _ => none) = none
          cases PV.ren m (.ref q) <;> rfl
        rw [this]
      · rfl
    · rfl
  show (match (PW W).fns[33]? with
    | some d => if [PV.ref q, .clo s [], v].length = d.np then runF (PW W) (evN (PW W) n true) (fun k cs vs h => evN (PW W) n false k (cs ++ vs) h) d [PV.ref q, .clo s [], v] H else .err
    | none => .err) = _
  rw [show (PW W).fns[33]? = some d33 from rfl]
  dsimp only
  rw [if_pos (show [PV.ref q, .clo s [], v].length = d33.np from rfl)]
  unfold runF lcl
  rw [g]
  rfl
section
variable {W n : Nat} {ρ : En} {h h2 h4 : Hh} {v x : PV} {e it el r : T} {k : List T} {R : Rz Fl}
theorem q_alc {i : Nat} {own : List Nat} {j q : Nat} {xs : List PV} (h1 : (ev (cf W n) it).i ρ h = .ok (.ref q) h) (h3 : compL (ev (cf W n) (.tn j)).g (ev (cf W n) .nil).t (ev (cf W n) el).e (.ref q) (wipeE ρ own) h.length W 0 (h ++ [.lst false []]) = .ok v h4) (hq : SQ (cf W n) (r :: k) (ρ.set i (some v)) h4 = R) : SQ (cf W n) (.cons (.alc i own (.tn j) it .nil el) r :: k) ρ h = R := by
  rw [q_cons]
  show ((((ev (cf W n) it).i ρ h).bnd fun it h => if (!false || it.noClo) = true then
      (compL (ev (cf W n) (.tn j)).g (ev (cf W n) .nil).t (ev (cf W n) el).e it (wipeE ρ own) h.length W 0 (h ++ [.lst false []])).nox else .err).bnd fun v h => (Rz.ok (ρ.set i (some v)) h).bnd fun ρ h => Rz.ok (Fl.nx ρ) h).bnd _ = _
  rw [h1, bnd_ok, if_pos (show (!false || (It.ref q).noClo) = true from rfl), h3]
  exact hq
theorem v_all {own : List Nat} {j q D : Nat} {N : Nat} (h1 : (ev (cf W n) it).i ρ h = .ok (.ref q) h) (h3 : compL (ev (cf W n) (.tn j)).g (ev (cf W n) .nil).t (ev (cf W n) el).e (.ref q) (wipeE ρ own) h.length W 0 (h ++ [.lst false []]) = .ok (.ref D) h4) (hg : getL h4 D = some (List.replicate N (.bl true))) : (ev (cf W n) (.blt .all (.cons (.lc own (.tn j) it .nil el) .nil))).e ρ h = .ok (.bl true) h4 := by
  show ((((ev (cf W n) it).i ρ h).bnd fun it h => if (!false || it.noClo) = true then
      (compL (ev (cf W n) (.tn j)).g (ev (cf W n) .nil).t (ev (cf W n) el).e it (wipeE ρ own) h.length W 0 (h ++ [.lst false []])).nox else .err).bnd fun x h => (Rz.ok ([] : List PV) h).bnd fun xs h => .ok (x :: xs) h).bnd (fun vs h => bltV .all vs h) = _
  rw [h1, bnd_ok, if_pos (show (!false || (It.ref q).noClo) = true from rfl), h3]
  show allV (.ref D) h4 = _
  unfold allV
  have g : lstV h4 (.ref D) = some (List.replicate N (PV.bl true)) := hg
  have bls : ∀ N : Nat, blsP (List.replicate N (PV.bl true)) = some (List.replicate N true) := fun N => by
    induction N with
    | zero => rfl
    | succ n ih =>
      rw [List.replicate_succ]
      show (match blsP (List.replicate n (PV.bl true)) with
        | some l => some (true :: l)
        | none => none) = _
      rw [ih]; rfl
  rw [g]
  show (match blsP (List.replicate N (PV.bl true)) with
      | some l => Rz.ok (PV.bl (l.all id)) h4
      | none => .err) = _
  rw [bls]
  show Rz.ok (PV.bl ((List.replicate N true).all id)) h4 = _
  rw [List.all_eq_true.mpr fun x hx => by rw [(List.mem_replicate.mp hx).2]; rfl]
theorem i_ref {i q : Nat} {xs : List PV} (hs : slot ρ i = some (.ref q)) (hg : getL h q = some xs) : (ev (cf W n) (.var i)).i ρ h = .ok (.ref q) h := by
  rw [i_var, v_var hs, bnd_ok]
  dsimp only
  rw [hg]
theorem clov1 {i s : Nat} {cs : List PV} {a : T} {vs : List PV} (hs : slot ρ i = some (.clo s cs)) (h1 : (ev (cf W n) a).a ρ h = .ok vs h2) (h3 : evN (PW W) n false s (cs ++ vs) h2 = .ok v h4) : (ev (cf W n) (.clov i a)).e ρ h = .ok v h4 := by
  show (match slot ρ i with
    | some (.clo k caps) => ((ev (cf W n) a).a ρ h).bnd fun vs h => evN (PW W) n false k (caps ++ vs) h
    | _ => .err) = _
  rw [hs]
  dsimp only
  rw [h1, bnd_ok, h3]
theorem v_rpE {s : Str} (h1 : (ev (cf W n) e).e ρ h = .ok v h2) (hv : ∀ b c w, v ≠ .exc b c w) (h3 : reprV v h2 = .ok (.str s) h2) : (ev (cf W n) (.rpx e)).e ρ h = .ok (.str s) h2 := by
  show ((ev (cf W n) e).e ρ h).bnd _ = _
  rw [h1, bnd_ok]
  cases v with
  | exc b c w => exact absurd rfl (hv b c w)
  | _ => exact h3
theorem v_attr {b : Bool} {c : Nat} (h1 : (ev (cf W n) e).e ρ h = .ok (.exc b c v) h2) : (ev (cf W n) (.attr e)).e ρ h = .ok v h2 := by
  show ((ev (cf W n) e).e ρ h).bnd _ = _
  rw [h1]; rfl
end
theorem e33 {W n : Nat} {P : Hh → Prop} (sp : Shp P) {clos : List PV} {s c q : Nat} {v : PV} {H : Hh} (hW : 1000 ≤ W) (looks : ∀ cl ∈ clos, ∀ H, P H → evN (PW W) n true 31 [cl] H = .ok (.tup [.exc false c v, .non]) H) (chk : ∀ H, evN (PW W) n false s [.exc false c v] H = .ok (.bl true) H)
    (hv : ∀ b c w, v ≠ .exc b c w) {st : Str} (rep : ∀ H, P H → reprV v H = .ok (.str st) H) (hP : P H) (hq : H[q]? = some (.lst false clos)) (hl : clos.length < 100) : ∃ H', evN (PW W) (n + 1) true 33 [.ref q, .clo s [], v] H = .ok (.bl true) H' ∧ P H' := by
  rw [refs_eq]
  have lq := (List.getElem?_eq_some_iff.mp hq).1
  have l2 := sp.len _ hP
  have gq : getL H q = some clos := by unfold getL; rw [hq]
  have gq1 : getL (H ++ [.lst false []]) q = some clos := by
    unfold getL
    rw [List.getElem?_append_left lq, hq]
  obtain ⟨H1, c1, p1, g1, l1⟩ := comp_sh (W := W) (n := n) sp (el := .idx (.call 31 (.cons (.var 4) .nil)) (.cst (.int 0))) (ρ0 := [some (.ref q), some (.clo s []), some v, none, none, none]) (j := 4) (q := q) (D := H.length) (xs := clos) (y := .exc false c v) (fun x hx H p => by
    refine v_idx (h2 := H) (h4 := H) (x := .tup [.exc false c v, .non]) (y := .int 0) (v_call (vs := [x]) (h2 := H) (a_cons (v_var rfl) a_nil) (looks x hx H p)) v_cst rfl) clos.length W 0 [] (H ++ [.lst false []]) (by omega) (by omega) (sp.app _ _ hP) l2 (by simp) (by omega) gq1 (by unfold isFl; rw [List.getElem?_append_right (Nat.le_refl _), Nat.sub_self]; rfl) (by simp; omega)
  rw [List.nil_append] at g1
  have g1' : getL (H1 ++ [.lst false []]) H.length = some (List.replicate clos.length (.exc false c v)) := by
    unfold getL at g1 ⊢
    rw [List.getElem?_append_left l1]
    exact g1
  have l2' := sp.len _ p1
  obtain ⟨H2, c2, p2, g2, _⟩ := comp_sh (W := W) (n := n) sp (el := .an (.clov 1 (.cons (.var 5) .nil)) (.an (.isi .verr (.var 5)) (.cmp .Eq (.rpx (.attr (.var 5))) (.rpx (.var 2))))) (ρ0 := [some (.ref q), some (.clo s []), some v, some (.ref H.length), none, none]) (j := 5) (q := H.length) (D := H1.length) (xs := List.replicate clos.length (.exc false c v)) (y := .bl true) (fun x hx H p => by
    have hx := (List.mem_replicate.mp hx).2
    subst hx
    refine v_an (k := true) (l := true) (h2 := H) (clov1 (s := s) (cs := []) (vs := [.exc false c v]) rfl (a_cons (v_var rfl) a_nil) (chk H)) fun _ => ?_
    refine v_an (k := true) (l := true) (h2 := H) (v_isi (x := .exc false c v) (v_var rfl) rfl) fun _ => ?_
    refine v_cmp (h2 := H) (h4 := H) (x := .str st) (y := .str st) (v_rpE (v_attr (b := false) (c := c) (v_var rfl)) hv (rep H p)) (v_rpE (v := v) (v_var rfl) hv (rep H p)) ?_
    rw [c_eqS]; simp) clos.length W 0 [] (H1 ++ [.lst false []]) (by simp) (by omega) (sp.app _ _ p1) l2' (by simp) (by omega) g1' (by unfold isFl; rw [List.getElem?_append_right (Nat.le_refl _), Nat.sub_self]; rfl) (by simp; omega)
  rw [List.nil_append] at g2
  refine ⟨H2, ?_, p2⟩
  have e : (ev (cf W n) d33.body).s [some (.ref q), some (.clo s []), some v, none, none, none] H = .ok (.rt (.bl true)) H2 := by
    refine q_go ?_
    unfold d33
    refine q_alc (xs := clos) (v := .ref H.length) (h4 := H1) (i_ref (xs := clos) rfl gq) c1 ?_
    refine q_ret ?_
    exact v_all (i_ref rfl g1) c2 g2
  rw [e]; rfl
def W0 : Nat := 2 ^ 8000
abbrev inn : HV := .lst false [.int 1, .int 0, .int (-2), .int 1]
def odds : List PV := [.non, .tup [.int 1, .int 0, .int (-4), .int 1], .tup [.int 2, .int 0, .int (-4), .int 1], .tup [.int 1, .int 0, .int 2, .int 1], .ref 1, .tup [.int 1, .int 0], .int 1, .str "1"]
def odds2 : List PV := [.non, .int 0, .int ((10 : Int) ^ (6 : Int).toNat + 1), .bl true, .str "1"]
/-- what is no number: each look refuses it -/
structure OddV (v : PV) : Prop where
  nc : v.noClo = true
  ne : ∀ b c w, v ≠ .exc b c w
  rep : ∃ st : Str, ∀ a b c T, reprV v (PotV a b c :: inn :: T) = .ok (.str st) (PotV a b c :: inn :: T)
  looks : ∀ cl ∈ [PV.clo 1 [v], .clo 2 [v], .clo 3 [v], .clo 4 [v], .clo 5 [v]], ∀ n a b c T, evN (PW W0) (n + 12) true 31 [cl] (PotV a b c :: inn :: T) = .ok (.tup [.exc false 2 v, .non]) (PotV a b c :: inn :: T)
structure OddI (v : PV) : Prop where
  nc : v.noClo = true
  ne : ∀ b c w, v ≠ .exc b c w
  rep : ∃ st : Str, ∀ h, reprV v h = .ok (.str st) h
  looks : ∀ n h, evN (PW W0) (n + 12) true 31 [.clo 7 [v]] h = .ok (.tup [.exc false 1 v, .non]) h
theorem chk2 (n : Nat) (v : PV) (h : Hh) : evN (PW W0) (n + 1) false 6 [.exc false 2 v] h = .ok (.bl true) h := by kernel_rfl
theorem chk1 (n : Nat) (v : PV) (h : Hh) : evN (PW W0) (n + 1) false 8 [.exc false 1 v] h = .ok (.bl true) h := by kernel_rfl
theorem lk1_0 (n : Nat) (a b c : Int) (T : Hh) : evN (PW W0) (n + 12) true 31 [.clo 1 [.non]] (PotV a b c :: inn :: T) = .ok (.tup [.exc false 2 (.non), .non]) (PotV a b c :: inn :: (T ++ [])) := by kernel_rfl
theorem lk2_0 (n : Nat) (a b c : Int) (T : Hh) : evN (PW W0) (n + 12) true 31 [.clo 2 [.non]] (PotV a b c :: inn :: T) = .ok (.tup [.exc false 2 (.non), .non]) (PotV a b c :: inn :: (T ++ [])) := by kernel_rfl
theorem lk3_0 (n : Nat) (a b c : Int) (T : Hh) : evN (PW W0) (n + 12) true 31 [.clo 3 [.non]] (PotV a b c :: inn :: T) = .ok (.tup [.exc false 2 (.non), .non]) (PotV a b c :: inn :: (T ++ [])) := by kernel_rfl
theorem lk4_0 (n : Nat) (a b c : Int) (T : Hh) : evN (PW W0) (n + 12) true 31 [.clo 4 [.non]] (PotV a b c :: inn :: T) = .ok (.tup [.exc false 2 (.non), .non]) (PotV a b c :: inn :: (T ++ [])) := by kernel_rfl
theorem lk5_0 (n : Nat) (a b c : Int) (T : Hh) : evN (PW W0) (n + 12) true 31 [.clo 5 [.non]] (PotV a b c :: inn :: T) = .ok (.tup [.exc false 2 (.non), .non]) (PotV a b c :: inn :: (T ++ [])) := by kernel_rfl
theorem rp_0 (a b c : Int) (T : Hh) : reprV (.non) (PotV a b c :: inn :: T) = .ok (.str (PyData.shown (.none))) (PotV a b c :: inn :: T) := by kernel_rfl
theorem odd_0 : OddV (.non) := by
  refine ⟨rfl, fun b c w h => (by cases h), ⟨_, rp_0⟩, fun cl hc n a b c T => ?_⟩
  simp only [List.mem_cons, List.not_mem_nil, or_false] at hc
  rw [← List.append_nil T]
  rcases hc with z | z | z | z | z <;> subst z
  · exact (lk1_0 n a b c (T ++ [])).trans (by rw [List.append_nil (T ++ [])])
  · exact (lk2_0 n a b c (T ++ [])).trans (by rw [List.append_nil (T ++ [])])
  · exact (lk3_0 n a b c (T ++ [])).trans (by rw [List.append_nil (T ++ [])])
  · exact (lk4_0 n a b c (T ++ [])).trans (by rw [List.append_nil (T ++ [])])
  · exact (lk5_0 n a b c (T ++ [])).trans (by rw [List.append_nil (T ++ [])])
theorem lk1_1 (n : Nat) (a b c : Int) (T : Hh) : evN (PW W0) (n + 12) true 31 [.clo 1 [.tup [.int 1, .int 0, .int (-4), .int 1]]] (PotV a b c :: inn :: T) = .ok (.tup [.exc false 2 (.tup [.int 1, .int 0, .int (-4), .int 1]), .non]) (PotV a b c :: inn :: (T ++ [])) := by kernel_rfl
theorem lk2_1 (n : Nat) (a b c : Int) (T : Hh) : evN (PW W0) (n + 12) true 31 [.clo 2 [.tup [.int 1, .int 0, .int (-4), .int 1]]] (PotV a b c :: inn :: T) = .ok (.tup [.exc false 2 (.tup [.int 1, .int 0, .int (-4), .int 1]), .non]) (PotV a b c :: inn :: (T ++ [])) := by kernel_rfl
theorem lk3_1 (n : Nat) (a b c : Int) (T : Hh) : evN (PW W0) (n + 12) true 31 [.clo 3 [.tup [.int 1, .int 0, .int (-4), .int 1]]] (PotV a b c :: inn :: T) = .ok (.tup [.exc false 2 (.tup [.int 1, .int 0, .int (-4), .int 1]), .non]) (PotV a b c :: inn :: (T ++ [])) := by kernel_rfl
theorem lk4_1 (n : Nat) (a b c : Int) (T : Hh) : evN (PW W0) (n + 12) true 31 [.clo 4 [.tup [.int 1, .int 0, .int (-4), .int 1]]] (PotV a b c :: inn :: T) = .ok (.tup [.exc false 2 (.tup [.int 1, .int 0, .int (-4), .int 1]), .non]) (PotV a b c :: inn :: (T ++ [])) := by kernel_rfl
theorem lk5_1 (n : Nat) (a b c : Int) (T : Hh) : evN (PW W0) (n + 12) true 31 [.clo 5 [.tup [.int 1, .int 0, .int (-4), .int 1]]] (PotV a b c :: inn :: T) = .ok (.tup [.exc false 2 (.tup [.int 1, .int 0, .int (-4), .int 1]), .non]) (PotV a b c :: inn :: (T ++ [])) := by kernel_rfl
theorem rp_1 (a b c : Int) (T : Hh) : reprV (.tup [.int 1, .int 0, .int (-4), .int 1]) (PotV a b c :: inn :: T) = .ok (.str (PyData.shown (.tuple [.int 1, .int 0, .int (-4), .int 1]))) (PotV a b c :: inn :: T) := by kernel_rfl
theorem odd_1 : OddV (.tup [.int 1, .int 0, .int (-4), .int 1]) := by
  refine ⟨rfl, fun b c w h => (by cases h), ⟨_, rp_1⟩, fun cl hc n a b c T => ?_⟩
  simp only [List.mem_cons, List.not_mem_nil, or_false] at hc
  rw [← List.append_nil T]
  rcases hc with z | z | z | z | z <;> subst z
  · exact (lk1_1 n a b c (T ++ [])).trans (by rw [List.append_nil (T ++ [])])
  · exact (lk2_1 n a b c (T ++ [])).trans (by rw [List.append_nil (T ++ [])])
  · exact (lk3_1 n a b c (T ++ [])).trans (by rw [List.append_nil (T ++ [])])
  · exact (lk4_1 n a b c (T ++ [])).trans (by rw [List.append_nil (T ++ [])])
  · exact (lk5_1 n a b c (T ++ [])).trans (by rw [List.append_nil (T ++ [])])
theorem lk1_2 (n : Nat) (a b c : Int) (T : Hh) : evN (PW W0) (n + 12) true 31 [.clo 1 [.tup [.int 2, .int 0, .int (-4), .int 1]]] (PotV a b c :: inn :: T) = .ok (.tup [.exc false 2 (.tup [.int 2, .int 0, .int (-4), .int 1]), .non]) (PotV a b c :: inn :: (T ++ [])) := by kernel_rfl
theorem lk2_2 (n : Nat) (a b c : Int) (T : Hh) : evN (PW W0) (n + 12) true 31 [.clo 2 [.tup [.int 2, .int 0, .int (-4), .int 1]]] (PotV a b c :: inn :: T) = .ok (.tup [.exc false 2 (.tup [.int 2, .int 0, .int (-4), .int 1]), .non]) (PotV a b c :: inn :: (T ++ [])) := by kernel_rfl
theorem lk3_2 (n : Nat) (a b c : Int) (T : Hh) : evN (PW W0) (n + 12) true 31 [.clo 3 [.tup [.int 2, .int 0, .int (-4), .int 1]]] (PotV a b c :: inn :: T) = .ok (.tup [.exc false 2 (.tup [.int 2, .int 0, .int (-4), .int 1]), .non]) (PotV a b c :: inn :: (T ++ [])) := by kernel_rfl
theorem lk4_2 (n : Nat) (a b c : Int) (T : Hh) : evN (PW W0) (n + 12) true 31 [.clo 4 [.tup [.int 2, .int 0, .int (-4), .int 1]]] (PotV a b c :: inn :: T) = .ok (.tup [.exc false 2 (.tup [.int 2, .int 0, .int (-4), .int 1]), .non]) (PotV a b c :: inn :: (T ++ [])) := by kernel_rfl
theorem lk5_2 (n : Nat) (a b c : Int) (T : Hh) : evN (PW W0) (n + 12) true 31 [.clo 5 [.tup [.int 2, .int 0, .int (-4), .int 1]]] (PotV a b c :: inn :: T) = .ok (.tup [.exc false 2 (.tup [.int 2, .int 0, .int (-4), .int 1]), .non]) (PotV a b c :: inn :: (T ++ [])) := by kernel_rfl
theorem rp_2 (a b c : Int) (T : Hh) : reprV (.tup [.int 2, .int 0, .int (-4), .int 1]) (PotV a b c :: inn :: T) = .ok (.str (PyData.shown (.tuple [.int 2, .int 0, .int (-4), .int 1]))) (PotV a b c :: inn :: T) := by kernel_rfl
theorem odd_2 : OddV (.tup [.int 2, .int 0, .int (-4), .int 1]) := by
  refine ⟨rfl, fun b c w h => (by cases h), ⟨_, rp_2⟩, fun cl hc n a b c T => ?_⟩
  simp only [List.mem_cons, List.not_mem_nil, or_false] at hc
  rw [← List.append_nil T]
  rcases hc with z | z | z | z | z <;> subst z
  · exact (lk1_2 n a b c (T ++ [])).trans (by rw [List.append_nil (T ++ [])])
  · exact (lk2_2 n a b c (T ++ [])).trans (by rw [List.append_nil (T ++ [])])
  · exact (lk3_2 n a b c (T ++ [])).trans (by rw [List.append_nil (T ++ [])])
  · exact (lk4_2 n a b c (T ++ [])).trans (by rw [List.append_nil (T ++ [])])
  · exact (lk5_2 n a b c (T ++ [])).trans (by rw [List.append_nil (T ++ [])])
theorem lk1_3 (n : Nat) (a b c : Int) (T : Hh) : evN (PW W0) (n + 12) true 31 [.clo 1 [.tup [.int 1, .int 0, .int 2, .int 1]]] (PotV a b c :: inn :: T) = .ok (.tup [.exc false 2 (.tup [.int 1, .int 0, .int 2, .int 1]), .non]) (PotV a b c :: inn :: (T ++ [])) := by kernel_rfl
theorem lk2_3 (n : Nat) (a b c : Int) (T : Hh) : evN (PW W0) (n + 12) true 31 [.clo 2 [.tup [.int 1, .int 0, .int 2, .int 1]]] (PotV a b c :: inn :: T) = .ok (.tup [.exc false 2 (.tup [.int 1, .int 0, .int 2, .int 1]), .non]) (PotV a b c :: inn :: (T ++ [])) := by kernel_rfl
theorem lk3_3 (n : Nat) (a b c : Int) (T : Hh) : evN (PW W0) (n + 12) true 31 [.clo 3 [.tup [.int 1, .int 0, .int 2, .int 1]]] (PotV a b c :: inn :: T) = .ok (.tup [.exc false 2 (.tup [.int 1, .int 0, .int 2, .int 1]), .non]) (PotV a b c :: inn :: (T ++ [])) := by kernel_rfl
theorem lk4_3 (n : Nat) (a b c : Int) (T : Hh) : evN (PW W0) (n + 12) true 31 [.clo 4 [.tup [.int 1, .int 0, .int 2, .int 1]]] (PotV a b c :: inn :: T) = .ok (.tup [.exc false 2 (.tup [.int 1, .int 0, .int 2, .int 1]), .non]) (PotV a b c :: inn :: (T ++ [])) := by kernel_rfl
theorem lk5_3 (n : Nat) (a b c : Int) (T : Hh) : evN (PW W0) (n + 12) true 31 [.clo 5 [.tup [.int 1, .int 0, .int 2, .int 1]]] (PotV a b c :: inn :: T) = .ok (.tup [.exc false 2 (.tup [.int 1, .int 0, .int 2, .int 1]), .non]) (PotV a b c :: inn :: (T ++ [])) := by kernel_rfl
theorem rp_3 (a b c : Int) (T : Hh) : reprV (.tup [.int 1, .int 0, .int 2, .int 1]) (PotV a b c :: inn :: T) = .ok (.str (PyData.shown (.tuple [.int 1, .int 0, .int 2, .int 1]))) (PotV a b c :: inn :: T) := by kernel_rfl
theorem odd_3 : OddV (.tup [.int 1, .int 0, .int 2, .int 1]) := by
  refine ⟨rfl, fun b c w h => (by cases h), ⟨_, rp_3⟩, fun cl hc n a b c T => ?_⟩
  simp only [List.mem_cons, List.not_mem_nil, or_false] at hc
  rw [← List.append_nil T]
  rcases hc with z | z | z | z | z <;> subst z
  · exact (lk1_3 n a b c (T ++ [])).trans (by rw [List.append_nil (T ++ [])])
  · exact (lk2_3 n a b c (T ++ [])).trans (by rw [List.append_nil (T ++ [])])
  · exact (lk3_3 n a b c (T ++ [])).trans (by rw [List.append_nil (T ++ [])])
  · exact (lk4_3 n a b c (T ++ [])).trans (by rw [List.append_nil (T ++ [])])
  · exact (lk5_3 n a b c (T ++ [])).trans (by rw [List.append_nil (T ++ [])])
theorem lk1_4 (n : Nat) (a b c : Int) (T : Hh) : evN (PW W0) (n + 12) true 31 [.clo 1 [.ref 1]] (PotV a b c :: inn :: T) = .ok (.tup [.exc false 2 (.ref 1), .non]) (PotV a b c :: inn :: (T ++ [])) := by kernel_rfl
theorem lk2_4 (n : Nat) (a b c : Int) (T : Hh) : evN (PW W0) (n + 12) true 31 [.clo 2 [.ref 1]] (PotV a b c :: inn :: T) = .ok (.tup [.exc false 2 (.ref 1), .non]) (PotV a b c :: inn :: (T ++ [])) := by kernel_rfl
theorem lk3_4 (n : Nat) (a b c : Int) (T : Hh) : evN (PW W0) (n + 12) true 31 [.clo 3 [.ref 1]] (PotV a b c :: inn :: T) = .ok (.tup [.exc false 2 (.ref 1), .non]) (PotV a b c :: inn :: (T ++ [])) := by kernel_rfl
theorem lk4_4 (n : Nat) (a b c : Int) (T : Hh) : evN (PW W0) (n + 12) true 31 [.clo 4 [.ref 1]] (PotV a b c :: inn :: T) = .ok (.tup [.exc false 2 (.ref 1), .non]) (PotV a b c :: inn :: (T ++ [])) := by kernel_rfl
theorem lk5_4 (n : Nat) (a b c : Int) (T : Hh) : evN (PW W0) (n + 12) true 31 [.clo 5 [.ref 1]] (PotV a b c :: inn :: T) = .ok (.tup [.exc false 2 (.ref 1), .non]) (PotV a b c :: inn :: (T ++ [])) := by kernel_rfl
theorem rp_4 (a b c : Int) (T : Hh) : reprV (.ref 1) (PotV a b c :: inn :: T) = .ok (.str (PyData.shown (.list [.int 1, .int 0, .int (-2), .int 1]))) (PotV a b c :: inn :: T) := by kernel_rfl
theorem odd_4 : OddV (.ref 1) := by
  refine ⟨rfl, fun b c w h => (by cases h), ⟨_, rp_4⟩, fun cl hc n a b c T => ?_⟩
  simp only [List.mem_cons, List.not_mem_nil, or_false] at hc
  rw [← List.append_nil T]
  rcases hc with z | z | z | z | z <;> subst z
  · exact (lk1_4 n a b c (T ++ [])).trans (by rw [List.append_nil (T ++ [])])
  · exact (lk2_4 n a b c (T ++ [])).trans (by rw [List.append_nil (T ++ [])])
  · exact (lk3_4 n a b c (T ++ [])).trans (by rw [List.append_nil (T ++ [])])
  · exact (lk4_4 n a b c (T ++ [])).trans (by rw [List.append_nil (T ++ [])])
  · exact (lk5_4 n a b c (T ++ [])).trans (by rw [List.append_nil (T ++ [])])
theorem lk1_5 (n : Nat) (a b c : Int) (T : Hh) : evN (PW W0) (n + 12) true 31 [.clo 1 [.tup [.int 1, .int 0]]] (PotV a b c :: inn :: T) = .ok (.tup [.exc false 2 (.tup [.int 1, .int 0]), .non]) (PotV a b c :: inn :: (T ++ [])) := by kernel_rfl
theorem lk2_5 (n : Nat) (a b c : Int) (T : Hh) : evN (PW W0) (n + 12) true 31 [.clo 2 [.tup [.int 1, .int 0]]] (PotV a b c :: inn :: T) = .ok (.tup [.exc false 2 (.tup [.int 1, .int 0]), .non]) (PotV a b c :: inn :: (T ++ [])) := by kernel_rfl
theorem lk3_5 (n : Nat) (a b c : Int) (T : Hh) : evN (PW W0) (n + 12) true 31 [.clo 3 [.tup [.int 1, .int 0]]] (PotV a b c :: inn :: T) = .ok (.tup [.exc false 2 (.tup [.int 1, .int 0]), .non]) (PotV a b c :: inn :: (T ++ [])) := by kernel_rfl
theorem lk4_5 (n : Nat) (a b c : Int) (T : Hh) : evN (PW W0) (n + 12) true 31 [.clo 4 [.tup [.int 1, .int 0]]] (PotV a b c :: inn :: T) = .ok (.tup [.exc false 2 (.tup [.int 1, .int 0]), .non]) (PotV a b c :: inn :: (T ++ [])) := by kernel_rfl
theorem lk5_5 (n : Nat) (a b c : Int) (T : Hh) : evN (PW W0) (n + 12) true 31 [.clo 5 [.tup [.int 1, .int 0]]] (PotV a b c :: inn :: T) = .ok (.tup [.exc false 2 (.tup [.int 1, .int 0]), .non]) (PotV a b c :: inn :: (T ++ [])) := by kernel_rfl
theorem rp_5 (a b c : Int) (T : Hh) : reprV (.tup [.int 1, .int 0]) (PotV a b c :: inn :: T) = .ok (.str (PyData.shown (.tuple [.int 1, .int 0]))) (PotV a b c :: inn :: T) := by kernel_rfl
theorem odd_5 : OddV (.tup [.int 1, .int 0]) := by
  refine ⟨rfl, fun b c w h => (by cases h), ⟨_, rp_5⟩, fun cl hc n a b c T => ?_⟩
  simp only [List.mem_cons, List.not_mem_nil, or_false] at hc
  rw [← List.append_nil T]
  rcases hc with z | z | z | z | z <;> subst z
  · exact (lk1_5 n a b c (T ++ [])).trans (by rw [List.append_nil (T ++ [])])
  · exact (lk2_5 n a b c (T ++ [])).trans (by rw [List.append_nil (T ++ [])])
  · exact (lk3_5 n a b c (T ++ [])).trans (by rw [List.append_nil (T ++ [])])
  · exact (lk4_5 n a b c (T ++ [])).trans (by rw [List.append_nil (T ++ [])])
  · exact (lk5_5 n a b c (T ++ [])).trans (by rw [List.append_nil (T ++ [])])
theorem lk1_6 (n : Nat) (a b c : Int) (T : Hh) : evN (PW W0) (n + 12) true 31 [.clo 1 [.int 1]] (PotV a b c :: inn :: T) = .ok (.tup [.exc false 2 (.int 1), .non]) (PotV a b c :: inn :: (T ++ [])) := by kernel_rfl
theorem lk2_6 (n : Nat) (a b c : Int) (T : Hh) : evN (PW W0) (n + 12) true 31 [.clo 2 [.int 1]] (PotV a b c :: inn :: T) = .ok (.tup [.exc false 2 (.int 1), .non]) (PotV a b c :: inn :: (T ++ [])) := by kernel_rfl
theorem lk3_6 (n : Nat) (a b c : Int) (T : Hh) : evN (PW W0) (n + 12) true 31 [.clo 3 [.int 1]] (PotV a b c :: inn :: T) = .ok (.tup [.exc false 2 (.int 1), .non]) (PotV a b c :: inn :: (T ++ [])) := by kernel_rfl
theorem lk4_6 (n : Nat) (a b c : Int) (T : Hh) : evN (PW W0) (n + 12) true 31 [.clo 4 [.int 1]] (PotV a b c :: inn :: T) = .ok (.tup [.exc false 2 (.int 1), .non]) (PotV a b c :: inn :: (T ++ [])) := by kernel_rfl
theorem lk5_6 (n : Nat) (a b c : Int) (T : Hh) : evN (PW W0) (n + 12) true 31 [.clo 5 [.int 1]] (PotV a b c :: inn :: T) = .ok (.tup [.exc false 2 (.int 1), .non]) (PotV a b c :: inn :: (T ++ [])) := by kernel_rfl
theorem rp_6 (a b c : Int) (T : Hh) : reprV (.int 1) (PotV a b c :: inn :: T) = .ok (.str (PyData.shown (.int 1))) (PotV a b c :: inn :: T) := by kernel_rfl
theorem odd_6 : OddV (.int 1) := by
  refine ⟨rfl, fun b c w h => (by cases h), ⟨_, rp_6⟩, fun cl hc n a b c T => ?_⟩
  simp only [List.mem_cons, List.not_mem_nil, or_false] at hc
  rw [← List.append_nil T]
  rcases hc with z | z | z | z | z <;> subst z
  · exact (lk1_6 n a b c (T ++ [])).trans (by rw [List.append_nil (T ++ [])])
  · exact (lk2_6 n a b c (T ++ [])).trans (by rw [List.append_nil (T ++ [])])
  · exact (lk3_6 n a b c (T ++ [])).trans (by rw [List.append_nil (T ++ [])])
  · exact (lk4_6 n a b c (T ++ [])).trans (by rw [List.append_nil (T ++ [])])
  · exact (lk5_6 n a b c (T ++ [])).trans (by rw [List.append_nil (T ++ [])])
theorem lk1_7 (n : Nat) (a b c : Int) (T : Hh) : evN (PW W0) (n + 12) true 31 [.clo 1 [.str "1"]] (PotV a b c :: inn :: T) = .ok (.tup [.exc false 2 (.str "1"), .non]) (PotV a b c :: inn :: (T ++ [])) := by kernel_rfl
theorem lk2_7 (n : Nat) (a b c : Int) (T : Hh) : evN (PW W0) (n + 12) true 31 [.clo 2 [.str "1"]] (PotV a b c :: inn :: T) = .ok (.tup [.exc false 2 (.str "1"), .non]) (PotV a b c :: inn :: (T ++ [])) := by kernel_rfl
theorem lk3_7 (n : Nat) (a b c : Int) (T : Hh) : evN (PW W0) (n + 12) true 31 [.clo 3 [.str "1"]] (PotV a b c :: inn :: T) = .ok (.tup [.exc false 2 (.str "1"), .non]) (PotV a b c :: inn :: (T ++ [])) := by kernel_rfl
theorem lk4_7 (n : Nat) (a b c : Int) (T : Hh) : evN (PW W0) (n + 12) true 31 [.clo 4 [.str "1"]] (PotV a b c :: inn :: T) = .ok (.tup [.exc false 2 (.str "1"), .non]) (PotV a b c :: inn :: (T ++ [])) := by kernel_rfl
theorem lk5_7 (n : Nat) (a b c : Int) (T : Hh) : evN (PW W0) (n + 12) true 31 [.clo 5 [.str "1"]] (PotV a b c :: inn :: T) = .ok (.tup [.exc false 2 (.str "1"), .non]) (PotV a b c :: inn :: (T ++ [])) := by kernel_rfl
theorem rp_7 (a b c : Int) (T : Hh) : reprV (.str "1") (PotV a b c :: inn :: T) = .ok (.str (PyData.shown (.str "1"))) (PotV a b c :: inn :: T) := by kernel_rfl
theorem odd_7 : OddV (.str "1") := by
  refine ⟨rfl, fun b c w h => (by cases h), ⟨_, rp_7⟩, fun cl hc n a b c T => ?_⟩
  simp only [List.mem_cons, List.not_mem_nil, or_false] at hc
  rw [← List.append_nil T]
  rcases hc with z | z | z | z | z <;> subst z
  · exact (lk1_7 n a b c (T ++ [])).trans (by rw [List.append_nil (T ++ [])])
  · exact (lk2_7 n a b c (T ++ [])).trans (by rw [List.append_nil (T ++ [])])
  · exact (lk3_7 n a b c (T ++ [])).trans (by rw [List.append_nil (T ++ [])])
  · exact (lk4_7 n a b c (T ++ [])).trans (by rw [List.append_nil (T ++ [])])
  · exact (lk5_7 n a b c (T ++ [])).trans (by rw [List.append_nil (T ++ [])])
theorem mk_0 (n : Nat) (h : Hh) : evN (PW W0) (n + 12) true 31 [.clo 7 [.non]] h = .ok (.tup [.exc false 1 (.non), .non]) (h ++ []) := by kernel_rfl
theorem sp_0 (h : Hh) : reprV (.non) h = .ok (.str (PyData.shown (.none))) h := by kernel_rfl
theorem ood_0 : OddI (.non) := ⟨rfl, fun b c w h => (by cases h), ⟨_, sp_0⟩, fun n h => (mk_0 n h).trans (by rw [List.append_nil])⟩
theorem mk_1 (n : Nat) (h : Hh) : evN (PW W0) (n + 12) true 31 [.clo 7 [.int 0]] h = .ok (.tup [.exc false 1 (.int 0), .non]) (h ++ []) := by kernel_rfl
theorem sp_1 (h : Hh) : reprV (.int 0) h = .ok (.str (PyData.shown (.int 0))) h := by kernel_rfl
theorem ood_1 : OddI (.int 0) := ⟨rfl, fun b c w h => (by cases h), ⟨_, sp_1⟩, fun n h => (mk_1 n h).trans (by rw [List.append_nil])⟩
theorem mk_2 (n : Nat) (h : Hh) : evN (PW W0) (n + 12) true 31 [.clo 7 [.int ((10 : Int) ^ (6 : Int).toNat + 1)]] h = .ok (.tup [.exc false 1 (.int ((10 : Int) ^ (6 : Int).toNat + 1)), .non]) (h ++ []) := by kernel_rfl
theorem sp_2 (h : Hh) : reprV (.int ((10 : Int) ^ (6 : Int).toNat + 1)) h = .ok (.str (PyData.shown (.int ((10 : Int) ^ (6 : Int).toNat + 1)))) h := by kernel_rfl
theorem ood_2 : OddI (.int ((10 : Int) ^ (6 : Int).toNat + 1)) := ⟨rfl, fun b c w h => (by cases h), ⟨_, sp_2⟩, fun n h => (mk_2 n h).trans (by rw [List.append_nil])⟩
theorem mk_3 (n : Nat) (h : Hh) : evN (PW W0) (n + 12) true 31 [.clo 7 [.bl true]] h = .ok (.tup [.exc false 1 (.bl true), .non]) (h ++ []) := by kernel_rfl
theorem sp_3 (h : Hh) : reprV (.bl true) h = .ok (.str (PyData.shown (.bool true))) h := by kernel_rfl
theorem ood_3 : OddI (.bl true) := ⟨rfl, fun b c w h => (by cases h), ⟨_, sp_3⟩, fun n h => (mk_3 n h).trans (by rw [List.append_nil])⟩
theorem mk_4 (n : Nat) (h : Hh) : evN (PW W0) (n + 12) true 31 [.clo 7 [.str "1"]] h = .ok (.tup [.exc false 1 (.str "1"), .non]) (h ++ []) := by kernel_rfl
theorem sp_4 (h : Hh) : reprV (.str "1") h = .ok (.str (PyData.shown (.str "1"))) h := by kernel_rfl
theorem ood_4 : OddI (.str "1") := ⟨rfl, fun b c w h => (by cases h), ⟨_, sp_4⟩, fun n h => (mk_4 n h).trans (by rw [List.append_nil])⟩
theorem odds_ok : ∀ v ∈ odds, OddV v := fun v hv => by
  unfold odds at hv
  simp only [List.mem_cons, List.not_mem_nil, or_false] at hv
  rcases hv with z | z | z | z | z | z | z | z <;> subst z
  · exact odd_0
  · exact odd_1
  · exact odd_2
  · exact odd_3
  · exact odd_4
  · exact odd_5
  · exact odd_6
  · exact odd_7
theorem odds2_ok : ∀ v ∈ odds2, OddI v := fun v hv => by
  unfold odds2 at hv
  simp only [List.mem_cons, List.not_mem_nil, or_false] at hv
  rcases hv with z | z | z | z | z <;> subst z
  · exact ood_0
  · exact ood_1
  · exact ood_2
  · exact ood_3
  · exact ood_4
section
local macro_rules | `(tactic| walk_at "fv0") => `(tactic| with_reducible (first | apply K01F.v_var | apply K01F.v_cst | apply K01F.v_bin | apply K01F.v_idx | apply K01F.v_call | apply K01F.v_callk | apply K01F.v_cmp | apply K01F.v_tup | apply K01F.v_neg | apply K01F.v_nt | apply K01F.v_an | apply K01F.v_oo | apply K01F.v_isi | apply K01F.v_glb | apply K01F.v_bit | apply K01F.v_abs | apply K01F.v_lenT | apply K01F.v_attr | apply K01F.v_isx | apply K01F.v_lam | apply K01F.v_lst | apply K01F.v_intB (a := .cmp _ _ _) | apply K01F.v_intI | apply K01F.a_nil | apply K01F.a_cons | apply K01F.t_nt | apply K01F.t_an | apply K01F.t_oo | apply K01F.t_cmp | apply K01F.t_chn | apply K01F.t_var | apply K01F.t_call | apply K01F.t_cst | apply K01F.t_blt | apply K01F.t_isi | apply K01F.t_isx | apply K01F.g_tn | apply K01F.q_nil | apply K01F.q_ret | apply K01F.q_asg | apply K01F.q_xpr | apply K01F.q_rse | apply K01F.q_par2 | apply K01F.q_end | apply bi_add | apply bi_sub | apply bi_mul | apply bi_div | apply bi_mod | apply bi_pow | apply bi_subB | apply c_lt | apply c_le | apply c_gt | apply c_ge | apply c_eq | apply c_ne | apply c_eqB | apply c_eqS | apply c_neS | apply c_in2))
local macro_rules | `(tactic| walk_at "smF") => `(tactic| first
  | ((with_reducible show slot _ _ = _); rfl)
  | ((with_reducible show idxV _ _ _ = _); rfl)
  | ((with_reducible show isV _ _ _ = _); rfl)
  | (refine And.intro (show List.length _ = T.len _ by rfl) (show List.length _ = T.len _ by rfl))
  | ((with_reducible show getAll _ _ = _); rfl)
  | ((with_reducible show List.contains _ _ = _); rfl)
  | ((with_reducible show capVals _ _ = _); rfl)
  | ((with_reducible show _ ≤ sizeLine); exact le_sz rfl)
  | ((with_reducible show K01.SQ _ [] _ _ = _); exact K01F.q_end)
  | ((with_reducible show EV.Ev.g (EV.ev _ (T.tn _)) _ _ _ = _); apply K01F.g_tn)
  | ((with_reducible show EV.MulOk _ _); assumption)
  | ((with_reducible show DivOk _); assumption)
  | ((with_reducible show PowOk _ _); assumption)
  | ((with_reducible show _ ≠ _); assumption)
  | ((with_reducible show ¬ _); assumption)
  | ((with_reducible show _ < _); assumption))
local macro_rules | `(tactic| walk_at "fvs") => `(tactic| ((repeat' (first | walk_at "fv0" | walk_at "smF" | ((with_reducible apply K01F.q_iffT'); (focus (walk_at "fvs"; done)); (focus (walk_at "kn"; done))) | ((with_reducible apply K01F.q_iffF'); (focus (walk_at "fvs"; done)); (focus (walk_at "kn"; done))) | intro _)); (all_goals (first | walk_at "mk" | walk_at "bw" | assumption | skip))))
local macro_rules | `(tactic| exists $ts,*) => do
    let alts ← ts.getElems.mapM fun t => `(tacticSeq| with_reducible apply $t)
    let alt2 ← ts.getElems.mapM fun t => `(tacticSeq| ((with_reducible show EV.evN _ _ _ _ _ _ = _); apply $t))
    `(tactic| ((repeat' (first | walk_at "fv0" | walk_at "smF" | ((with_reducible apply K01F.q_iffT'); (focus (exists $ts,*; done)); (focus (walk_at "kn"; done))) | ((with_reducible apply K01F.q_iffF'); (focus (exists $ts,*; done)); (focus (walk_at "kn"; done))) $[| $alts]* | intro _ $[| $alt2]*)); (all_goals (first | walk_at "mk" | walk_at "bw" | assumption | skip))))
section
variable {W n : Nat} {cd : List Nat} {ρ : En} {h h2 h4 : Hh} {v y : PV} {l e r : T} {k : List T} {R : Rz Fl}
theorem gK {i : Nat} (hc : cd.contains i = true) (hv : v.noClo = true) : (ev (ct W n cd) (.tn i)).g v ρ h = .ok ((killE ρ).set i (some v)) (killH h) := by
  show (if (true && cd.contains i) = true then (if v.noClo = true then Rz.ok ((killE ρ).set i (some v)) (killH h) else .err) else _) = _
  rw [hc, if_pos (show (true && true) = true from rfl), if_pos hv]
theorem q_app {m : Nat} {xs : List PV} (h1 : (ev (ct W n cd) l).e ρ h = .ok (.ref m) h) (h3 : isFl h m = some xs) (h5 : (ev (ct W n cd) e).e ρ h = .ok y h) (hx : xs.length < 1000) (hq : SQ (ct W n cd) (r :: k) ρ (h.set m (.lst false (xs ++ [y]))) = R) : SQ (ct W n cd) (.cons (.app l e) r :: k) ρ h = R := by
  rw [K01F.q_cons]
  show (((ev (ct W n cd) l).e ρ h).bnd fun x h => match x with
    | .ref n => match isFl h n with
      | some _ => ((ev (ct W _ cd) e).e ρ h).bnd fun y h => match isFl h n with
        | some xs => if xs.length < sizeLine then Rz.ok (Fl.nx ρ) (h.set n (.lst false (xs ++ [y]))) else .err
        | none => .err
      | none => .err
    | _ => .err).bnd _ = _
  rw [h1, bnd_ok]
  dsimp only
  rw [h3]
  dsimp only
  rw [h5, bnd_ok, h3]
  dsimp only
  rw [if_pos (by rw [sizeLine_eq]; omega)]
  exact hq
end
theorem set_end (h : Hh) (x y : HV) : (h ++ [x]).set h.length y = h ++ [y] := by
  induction h with
  | nil => rfl
  | cons a t ih =>
    show a :: (t ++ [x]).set t.length y = _
    rw [ih]; rfl
theorem fl_end (h : Hh) (xs : List PV) : isFl (h ++ [.lst false xs]) h.length = some xs := by
  unfold isFl
  rw [List.getElem?_append_right (Nat.le_refl _), Nat.sub_self]; rfl
theorem get_end (h : Hh) (x : HV) : (h ++ [x])[h.length]? = some x := by
  rw [List.getElem?_append_right (Nat.le_refl _), Nat.sub_self]; rfl
/-! ### the first draw: a list within the list -/
def outL : HV := .lst false odds
def outI : List PV := [.non, .tup [.int 1, .int 0, .int (-4), .int 1], .tup [.int 2, .int 0, .int (-4), .int 1], .tup [.int 1, .int 0, .int 2, .int 1], .ref 2, .tup [.int 1, .int 0], .int 1, .str "1"]
theorem grab_odd (a b c : Int) : grab [PotV a b c, inn, outL] [.ref 0, .ref 2] = some ([0, 2, 1], [.ref 0, .ref 1], [PotV a b c, .lst false outI, inn]) := by kernel_rfl
theorem call_odd {W n : Nat} {a b c : Int} {v : PV} {h1 : Hh} (r : endS false ((ev (cf W n) d29.body).s [some (.ref 0), some (.ref 1)] [PotV a b c, .lst false outI, inn]) = .ok v h1) : evN (PW W) (n + 1) true 29 [.ref 0, .ref 2] [PotV a b c, inn, outL] = .ok (v.bak [0, 2, 1] 3) (wrt [0, 2, 1] 3 [0, 2, 1] h1 [PotV a b c, inn, outL]) := by
  show (match (PW W).fns[29]? with
    | some d => if [PV.ref 0, .ref 2].length = d.np then runF (PW W) (evN (PW W) n true) (fun k cs vs h => evN (PW W) n false k (cs ++ vs) h) d [.ref 0, .ref 2] [PotV a b c, inn, outL] else .err
    | none => .err) = _
  rw [show (PW W).fns[29]? = some d29 from rfl]
  dsimp only
  rw [if_pos (show [PV.ref 0, .ref 2].length = d29.np from rfl)]
  unfold runF lcl
  rw [grab_odd]
  dsimp only
  rw [show d29.flag = false from rfl, show d29.capd = [] from rfl]
  have r' : endS false ((ev (cfgOf (PW W) (evN (PW W) n true) (fun k cs vs h => evN (PW W) n false k (cs ++ vs) h) false []) d29.body).s ([PV.ref 0, .ref 1].map some ++ List.replicate (d29.ns - d29.np) none) [PotV a b c, .lst false outI, inn]) = .ok v h1 := r
  rw [r']
  rfl
theorem e29x {W n k : Nat} {a b c : Int} (hp : PH k 0 [PotV a b c]) (hk : k ≤ 990) : ∃ v a' b' c' T, evN (PW W) (n + 2) true 29 [.ref 0, .ref 2] [PotV a b c, inn, outL] = .ok v (PotV a' b' c' :: inn :: T) ∧ v ∈ odds ∧ PH (k + 1) 0 [PotV a' b' c'] := by
  have hp3 : PH k 0 [PotV a b c, .lst false outI, inn] := hp.app [.lst false outI, inn]
  obtain ⟨d, h1, e, ⟨d0, d1⟩, ⟨a', b', c', p1, r⟩, f1⟩ := e28 (W := W) (n := n) (u := 8) (by decide) (by decide) hp3 (by omega)
  obtain ⟨v, av, hv⟩ := atI_mem (xs := outI) d0 d1
  have g1 := f1.2 1 (by show 1 < 3; decide) (by decide)
  have g2 := f1.2 2 (by show 2 < 3; decide) (by decide)
  have run : (ev (cf W (n + 1)) d29.body).s [some (.ref 0), some (.ref 1)] [PotV a b c, .lst false outI, inn] = .ok (.rt v) h1 := by
    refine q_go ?_
    unfold d29
    refine q_ret ?_
    refine v_idx (h2 := [PotV a b c, .lst false outI, inn]) (x := .ref 1) (y := .int d) (h4 := h1) (v_var rfl) (v_call (vs := [.ref 0, .int 8]) (h2 := [PotV a b c, .lst false outI, inn]) ?_ e) ?_
    · exact a_cons (v_var rfl) (a_cons (v_lenR (xs := outI) (v_var rfl) rfl) a_nil)
    · show (match getL h1 1 with
        | some xs => match atI xs d with
          | some v => Rz.ok v h1
          | none => .err
        | none => .err) = _
      have g : getL h1 1 = some outI := by
        unfold getL
        rw [g1]; rfl
      rw [g]
      dsimp only
      rw [av]
  have cl := call_odd (W := W) (n := n + 1) (a := a) (b := b) (c := c) (v := v) (h1 := h1) (by rw [run]; rfl)
  match h1, p1, g1, g2 with
  | o :: o2 :: o3 :: os, p1, g1, g2 =>
    have eo : o = PotV a' b' c' := by simpa using p1
    have eo2 : o2 = .lst false outI := by simpa using g1
    have eo3 : o3 = inn := by simpa using g2
    subst eo eo2 eo3
    refine ⟨v.bak [0, 2, 1] 3, a', b', c', outL :: os.map (HV.bak [0, 2, 1] 3), cl.trans rfl, ?_, ⟨a', b', c', rfl, r⟩⟩
    unfold outI at hv
    simp only [List.mem_cons, List.not_mem_nil, or_false] at hv
    unfold odds
    rcases hv with z | z | z | z | z | z | z | z <;> subst z <;> simp [PV.bak, PV.baks, bakN]
theorem killE3 {v : PV} {m : Nat} (hn : v.noClo = true) : killE [some (.ref 0), some v, some (.ref m)] = [some (.ref 0), some v, some (.ref m)] := by
  show [some (PV.ref 0), (if v.noClo then some v else none), some (PV.ref m)] = _
  rw [hn]; rfl
theorem shp1 : Shp (fun H => ∃ a b c T, H = PotV a b c :: inn :: T) where
  app H x := by rintro ⟨a, b, c, T, rfl⟩; exact ⟨a, b, c, T ++ [x], rfl⟩
  set H D x := by
    rintro ⟨a, b, c, T, rfl⟩ h
    obtain ⟨D, rfl⟩ : ∃ D', D = D' + 2 := ⟨D - 2, by omega⟩
    exact ⟨a, b, c, T.set D x, rfl⟩
  len H := by rintro ⟨a, b, c, T, rfl⟩; exact Nat.le_add_left 2 _
theorem shp2 {a b c : Int} : Shp (fun H => ∃ x T, H = PotV a b c :: x :: T) where
  app H x := by rintro ⟨y, T, rfl⟩; exact ⟨y, T ++ [x], rfl⟩
  set H D x := by
    rintro ⟨y, T, rfl⟩ h
    obtain ⟨D, rfl⟩ : ∃ D', D = D' + 2 := ⟨D - 2, by omega⟩
    exact ⟨y, T.set D x, rfl⟩
  len H := by rintro ⟨y, T, rfl⟩; exact Nat.le_add_left 2 _
theorem shp1' {a b c : Int} : Shp (fun H => ∃ T, H = PotV a b c :: inn :: T) where
  app H x := by rintro ⟨T, rfl⟩; exact ⟨T ++ [x], rfl⟩
  set H D x := by
    rintro ⟨T, rfl⟩ h
    obtain ⟨D, rfl⟩ : ∃ D', D = D' + 2 := ⟨D - 2, by omega⟩
    exact ⟨T.set D x, rfl⟩
  len H := by rintro ⟨T, rfl⟩; exact Nat.le_add_left 2 _
theorem W0_big : 2 ^ 8000 ≤ W0 := Nat.le_refl _
theorem refused_b {n k : Nat} {a b c : Int} (hp : PH k 0 [PotV a b c]) (hk : k ≤ 980) : ∃ h1, (ev (ct W0 (n + 13) [1]) d52.body).s [some (.ref 0), none, none] [PotV a b c] = .ok (.rt (.bl true)) h1 ∧ PH (k + 2) 0 h1 := by
  obtain ⟨v, a', b', c', T, e1, hv, ph1⟩ := e29x (W := W0) (n := n + 11) hp (by omega)
  have od := odds_ok v hv
  obtain ⟨st, rep⟩ := od.rep
  -- behind the first draw
  generalize hH1 : killH (PotV a' b' c' :: inn :: T) = H1
  have hH1' : H1 = PotV a' b' c' :: inn :: killH T := by rw [← hH1]; rfl
  have l1 : 2 ≤ H1.length := by rw [hH1']; exact Nat.le_add_left 2 _
  obtain ⟨H2, e33a, T2, hH2⟩ := e33 (W := W0) (n := n + 12) (shp1' (a := a') (b := b') (c := c')) (clos := [PV.clo 1 [v], .clo 2 [v], .clo 3 [v], .clo 4 [v], .clo 5 [v]]) (s := 6) (c := 2) (q := H1.length) (v := v) (H := H1 ++ [.lst false [PV.clo 1 [v], .clo 2 [v], .clo 3 [v], .clo 4 [v], .clo 5 [v]]]) (W1000 W0_big) (fun cl hcl H ⟨T, hT⟩ => by
    rw [hT]
    exact od.looks cl hcl n a' b' c' T) (fun H => chk2 _ _ _) od.ne (fun H ⟨T, hT⟩ => by rw [hT]; exact rep a' b' c' T) ⟨killH T ++ [.lst false [PV.clo 1 [v], .clo 2 [v], .clo 3 [v], .clo 4 [v], .clo 5 [v]]], by rw [hH1']; rfl⟩ (get_end _ _) (show 5 < 100 by decide)
  have ph2 : PH (k + 1) 0 H2 := by rw [hH2]; exact ph1.app (inn :: T2)
  have l2 : 2 ≤ H2.length := by rw [hH2]; exact Nat.le_add_left 2 _
  obtain ⟨v2, H3, e29b, hv2, ph3, f3⟩ := e29 (W := W0) (n := n + 11) (xs := odds2) (q := H2.length) (ph2.app [.lst false odds2]) (get_end _ _) (by omega) rfl (by omega) (show 0 < 5 by decide) (show 5 < 1000 by decide)
  have od2 := odds2_ok v2 hv2
  obtain ⟨st2, rep2⟩ := od2.rep
  have l3 : 3 ≤ H3.length := by have := f3.1; rw [List.length_append] at this; simp at this; omega
  generalize hH4 : killH H3 = H4
  have ph4 : PH (k + 2) 0 H4 := by rw [← hH4]; exact ph3.kill
  have l4 : 3 ≤ H4.length := by rw [← hH4]; unfold killH; rw [List.length_map]; exact l3
  obtain ⟨a4, b4, c4, g4, r4⟩ := ph4
  obtain ⟨x4, T4, hH4'⟩ : ∃ x T, H4 = PotV a4 b4 c4 :: x :: T := by
    match H4, l4, g4 with
    | o :: x :: T, _, g4 =>
      have : o = PotV a4 b4 c4 := by simpa using g4
      exact ⟨x, T, by rw [this]⟩
  obtain ⟨H5, e33b, x5, T5, hH5⟩ := e33 (W := W0) (n := n + 12) (shp2 (a := a4) (b := b4) (c := c4)) (clos := [PV.clo 7 [v2]]) (s := 8) (c := 1) (q := H4.length) (v := v2) (H := H4 ++ [.lst false [PV.clo 7 [v2]]]) (W1000 W0_big) (fun cl hcl H _ => by
    have : cl = .clo 7 [v2] := by simpa using hcl
    rw [this]
    exact od2.looks n H) (fun H => chk1 _ _ _) od2.ne (fun H _ => rep2 H) ⟨x4, T4 ++ [.lst false [PV.clo 7 [v2]]], by rw [hH4']; rfl⟩ (get_end _ _) (show 1 < 100 by decide)
  refine ⟨killH H5, ?_, ?_⟩
  · refine K01F.q_go ?_
    unfold d52
    refine K01F.q_asg (v := v) (h2 := PotV a' b' c' :: inn :: T) (h4 := H1) (ρ1 := [some (.ref 0), some v, none]) (K01F.v_call (vs := [.ref 0, .ref 2]) (h2 := [PotV a b c, inn, outL]) ?_ e1) ((gK rfl od.nc).trans (by rw [hH1]; rfl)) ?_
    · refine K01F.a_cons (h2 := [PotV a b c]) (K01F.v_var rfl) (K01F.a_cons (K01F.v_lst (h2 := [PotV a b c, inn]) (vs := odds) ?_ (le_sz rfl)) K01F.a_nil)
      unfold odds
      walk_at "fvs"
      refine (K01F.v_lst (h2 := [PotV a b c]) (vs := [.int 1, .int 0, .int (-2), .int 1]) ?_ (le_sz rfl)).trans rfl
      walk_at "fvs"
    refine K01F.q_asg (v := .ref H1.length) (h2 := H1 ++ [.lst false [.clo 1 [v]]]) (h4 := H1 ++ [.lst false [.clo 1 [v]]]) (ρ1 := [some (.ref 0), some v, some (.ref H1.length)]) (K01F.v_lst (h2 := H1) (vs := [.clo 1 [v]]) (K01F.a_cons (K01F.v_lam (l := [1]) (vs := [v]) rfl rfl (by show (v.noClo && true) = true; rw [od.nc]; rfl)) K01F.a_nil) (le_sz rfl)) (K01F.g_tn rfl) ?_
    have ncl : PV.noClos [v] = true := by show (v.noClo && true) = true; rw [od.nc]; rfl
    refine q_app (y := .clo 2 [v]) (K01F.v_var rfl) (fl_end _ _) (K01F.v_lam (l := [1]) (vs := [v]) rfl rfl ncl) (show 1 < 1000 by decide) ?_
    rw [set_end]
    refine q_app (y := .clo 3 [v]) (K01F.v_var rfl) (fl_end _ _) (K01F.v_lam (l := [1]) (vs := [v]) rfl rfl ncl) (show 2 < 1000 by decide) ?_
    rw [set_end]
    refine q_app (y := .clo 4 [v]) (K01F.v_var rfl) (fl_end _ _) (K01F.v_lam (l := [1]) (vs := [v]) rfl rfl ncl) (show 3 < 1000 by decide) ?_
    rw [set_end]
    refine q_app (y := .clo 5 [v]) (K01F.v_var rfl) (fl_end _ _) (K01F.v_lam (l := [1]) (vs := [v]) rfl rfl ncl) (show 4 < 1000 by decide) ?_
    rw [set_end]
    refine K01F.q_iffF (h2 := H2) (K01F.t_nt (k := true) (K01F.t_call (K01F.v_call (vs := [.ref H1.length, .clo 6 [], v]) ?_ e33a))) ?_
    · exact K01F.a_cons (K01F.v_var rfl) (K01F.a_cons (K01F.v_lam (l := []) (vs := []) rfl rfl rfl) (K01F.a_cons (K01F.v_var rfl) K01F.a_nil))
    refine K01F.q_nil ?_
    refine K01F.q_asg (v := v2) (h2 := H3) (h4 := H4) (ρ1 := [some (.ref 0), some v2, some (.ref H1.length)]) (K01F.v_call (vs := [.ref 0, .ref H2.length]) (h2 := H2 ++ [.lst false odds2]) ?_ e29b) ((gK rfl od2.nc).trans (by rw [hH4, killE3 od.nc]; rfl)) ?_
    · refine K01F.a_cons (h2 := H2) (K01F.v_var rfl) (K01F.a_cons (K01F.v_lst (h2 := H2) (vs := odds2) ?_ (le_sz rfl)) K01F.a_nil)
      have pk : PowOk 10 6 := by decide
      unfold odds2
      walk_at "fvs"
    refine K01F.q_asg (v := .ref H4.length) (h2 := H4 ++ [.lst false [.clo 7 [v2]]]) (h4 := H4 ++ [.lst false [.clo 7 [v2]]]) (ρ1 := [some (.ref 0), some v2, some (.ref H4.length)]) (K01F.v_lst (h2 := H4) (vs := [.clo 7 [v2]]) (K01F.a_cons (K01F.v_lam (l := [1]) (vs := [v2]) rfl rfl (by show (v2.noClo && true) = true; rw [od2.nc]; rfl)) K01F.a_nil) (le_sz rfl)) (K01F.g_tn rfl) ?_
    refine K01F.q_ret rfl (K01F.v_call (vs := [.ref H4.length, .clo 8 [], v2]) ?_ e33b)
    exact K01F.a_cons (K01F.v_var rfl) (K01F.a_cons (K01F.v_lam (l := []) (vs := []) rfl rfl rfl) (K01F.a_cons (K01F.v_var rfl) K01F.a_nil))
  · refine PH.kill ?_
    rw [hH5]
    exact ⟨a4, b4, c4, rfl, r4⟩
theorem e52 {n k p : Nat} {H : Hh} (hp : PH k p H) (hk : k ≤ 980) : ∃ H', evN (PW W0) (n + 14) true 52 [.ref p] H = .ok (.bl true) H' ∧ PH (k + 2) p H' ∧ Fr p H H' := by
  obtain ⟨v, H', e, rfl, r⟩ := pot_run (W := W0) (n := n + 13) (f := 52) (d := d52) (k' := k + 2) (as := []) (Q := fun v => v = .bl true) hp rfl rfl rfl (fun a b c hp => by
    obtain ⟨h1, e, ph⟩ := refused_b (n := n) hp hk
    refine ⟨.bl true, h1, ?_, rfl, rfl, ph⟩
    show endS true ((ev (ct W0 (n + 13) [1]) d52.body).s [some (.ref 0), none, none] [PotV a b c]) = _
    rw [e]; rfl)
  exact ⟨H', e, r⟩
end
section
variable {W n : Nat} {ρ : En} {h : Hh} {b : T}
/-- eight laps, each of which leaves a pot -/
theorem for_run {N K : Nat} {j : Nat} {b : T} {ρb : En} (hb : ∀ i : Nat, i < N → ∀ H, PH (K + 16 * i) 0 H → ∃ H', (ev (cf W n) b).s (ρb.set j (some (.int (i : Int)))) H = .ok (.nx (ρb.set j (some (.int (i : Int))))) H' ∧ PH (K + 16 * (i + 1)) 0 H') : ∀ (r m k : Nat) (ρ : En) (H : Hh), N = k + r → r < m → (∀ v, ρ.set j v = ρb.set j v) → PH (K + 16 * k) 0 H → ∃ x H', EV.forL (ev (cf W n) (.tn j)).g (ev (cf W n) b).s (.rng 0 N) m k ρ H = .ok (.nx (if r = 0 then ρ else ρb.set j (some x))) H' ∧ PH (K + 16 * N) 0 H'
  | r, 0, k, ρ, H, h1, h2, _, _ => by omega
  | 0, m + 1, k, ρ, H, h1, h2, hρ, p => by
    refine ⟨.non, H, ?_, by rw [h1]; exact p⟩
    unfold EV.forL
    have : EV.itemAt (.rng 0 N) k H = some none := by
      show some (if k < N then some (PV.int (0 + k)) else none) = _
      rw [if_neg (by omega)]
    rw [this, if_pos rfl]
  | r + 1, m + 1, k, ρ, H, h1, h2, hρ, p => by
    obtain ⟨H1, e1, p1⟩ := hb k (by omega) H p
    obtain ⟨x, H2, e2, p2⟩ := for_run hb r m (k + 1) (ρb.set j (some (.int (k : Int)))) H1 (by omega) (by omega) (fun v => by rw [List.set_set]) p1
    refine ⟨if r = 0 then .int (k : Int) else x, H2, ?_, p2⟩
    unfold EV.forL
    have : EV.itemAt (.rng 0 N) k H = some (some (.int (k : Int))) := by
      show some (if k < N then some (PV.int (0 + k)) else none) = _
      rw [if_pos (by omega), Int.zero_add]
    rw [this]
    show ((ev (cf W n) (.tn j)).g (.int (k : Int)) ρ H).bnd _ = _
    rw [show (ev (cf W n) (.tn j)).g (.int (k : Int)) ρ H = .ok (ρ.set j (some (.int (k : Int)))) H from rfl, bnd_ok, hρ, e1, bnd_ok]
    dsimp only
    rw [e2]
    cases r with
    | zero => rfl
    | succ r => rfl
theorem v_anT {a b : T} {v : PV} {h2 h4 : Hh} (h1 : (ev (cf W n) a).e ρ h = .ok (.bl true) h2) (h3 : (ev (cf W n) b).e ρ h2 = .ok v h4) : (ev (cf W n) (.an a b)).e ρ h = .ok v h4 := by
  show ((ev (cf W n) a).e ρ h).bnd (fun x h => match x with
      | .bl true => (ev (cf W n) b).e ρ h
      | .bl false => .ok (.bl false) h
      | _ => .err) = _
  rw [h1, bnd_ok]
  exact h3
theorem q_fo {it : T} {j N : Nat} {r : T} {k : List T} {R : Rz Fl} {ρ1 : En} {h2 : Hh} (hN : (ev (cf W n) it).i ρ h = .ok (.rng 0 N) h) (h3 : EV.forL (ev (cf W n) (.tn j)).g (ev (cf W n) b).s (.rng 0 N) W 0 ρ h = .ok (.nx ρ1) h2) (hq : SQ (cf W n) (r :: k) ρ1 h2 = R) : SQ (cf W n) (.cons (.fo (.tn j) it b) r :: k) ρ h = R := by
  rw [q_cons]
  show (((ev (cf W n) it).i ρ h).bnd fun it h => if (!false || it.noClo) = true then EV.forL (ev (cf W n) (.tn j)).g (ev (cf W n) b).s it W 0 ρ h else .err).bnd _ = _
  rw [hN, bnd_ok, if_pos (show (!false || (It.rng 0 N).noClo) = true from rfl), h3]
  exact hq
end
theorem rng8 {W n : Nat} {ρ : En} {h : Hh} : (ev (cf W n) (.rng1 (.cst (.int 8)))).i ρ h = .ok (.rng 0 8) h := by
  show (if (8 : Int).natAbs ≤ 1000000 then Rz.ok (It.rng 0 (8 : Int).toNat) h else .err) = _
  rw [if_pos (by decide)]; rfl
def nearB (t d : Int) : Bool := decide ((floorF (lfF (rtF (t - 4) 1 1 d)) 997).natAbs < 2 ^ 25)
theorem near_all : ([0, 1, 2, 3, 4, 5, 6, 7, 8].all fun t : Int => [2, 3, 7].all fun d : Int => nearB t d) = true := by kernel_rfl
theorem near_bd' {t d : Int} (h0 : 0 ≤ t) (h9 : t < 9) (hd : d = 2 ∨ d = 3 ∨ d = 7) : Bd 25 (floorF (lfF (rtF (t - 4) 1 1 d)) 997) := by
  have h1 := List.all_eq_true.mp near_all t (by
    have : t = 0 ∨ t = 1 ∨ t = 2 ∨ t = 3 ∨ t = 4 ∨ t = 5 ∨ t = 6 ∨ t = 7 ∨ t = 8 := by omega
    simpa using this)
  have h2 := List.all_eq_true.mp h1 d (by simpa using hd)
  exact of_decide_eq_true h2
theorem right_b {n k : Nat} {a b c : Int} (hp : PH k 0 [PotV a b c]) (hk : k ≤ 600) : ∃ h1, (ev (cf W0 (n + 14)) d53.body).s [some (.ref 0), none, none, none] [PotV a b c] = .ok (.rt (.bl true)) h1 ∧ PH (k + 138) 0 h1 := by
  have hW := W0_big
  -- the laps
  obtain ⟨lp, H1, e1, p1⟩ := for_run (W := W0) (n := n + 14) (N := 8) (K := k) (j := 1) (ρb := [some (.ref 0), none, none, none]) (b := .cons (.iff (.nt (.call 51 (.cons (.var 0) (.cons (.call 49 (.cons (.var 0) .nil)) (.cons (.call 49 (.cons (.var 0) .nil)) .nil))))) (.cons (.ret (.cst (.bl false))) .nil) .nil) .nil) (fun i hi H p => by
    obtain ⟨_, h1, e1, ⟨x, rfl, okx⟩, p1, _⟩ := e49 (W := W0) (n := n + 9) p (by omega) hW
    obtain ⟨_, h2, e2, ⟨y, rfl, oky⟩, p2, _⟩ := e49 (W := W0) (n := n + 9) p1 (by omega) hW
    obtain ⟨h3, e3, p3, _⟩ := e51 (W := W0) (n := n + 5) okx oky p2 (by omega) hW
    refine ⟨h3, q_go ?_, p3.mono (by omega)⟩
    show SQ (cf W0 (n + 14)) _ [some (.ref 0), some (.int (i : Int)), none, none] H = _
    refine q_iffF (h2 := h3) (t_nt (k := true) (t_call (v_call (vs := [.ref 0, IN x, IN y]) (h2 := h2) ?_ e3))) (q_nil (q_nil q_end))
    exact a_cons (v_var rfl) (a_cons (h2 := h1) (v_call (vs := [.ref 0]) (a_cons (v_var rfl) a_nil) e1) (a_cons (h2 := h2) (v_call (vs := [.ref 0]) (a_cons (v_var rfl) a_nil) e2) a_nil))) 8 W0 0 [some (.ref 0), none, none, none] [PotV a b c] rfl (Nat.lt_of_lt_of_le (by decide : 8 < 1000) (W1000 hW)) (fun v => rfl) hp
  rw [if_neg (by decide)] at e1
  -- near one another
  obtain ⟨t, h2, e2, ⟨t0, t9⟩, p2, _⟩ := e28 (W := W0) (n := n + 13) (u := 9) (by decide) (by decide) p1 (by omega)
  have l2 := p2.lt
  obtain ⟨v3, h3, e3, m3, p3, _⟩ := e29 (W := W0) (n := n + 12) (xs := [.int 2, .int 3, .int 7]) (q := h2.length) (p2.app [.lst false [.int 2, .int 3, .int 7]]) (get_end _ _) (by omega) rfl (by omega) (show 0 < 3 by decide) (show 3 < 1000 by decide)
  obtain ⟨d, rfl, hd⟩ : ∃ d : Int, v3 = .int d ∧ (d = 2 ∨ d = 3 ∨ d = 7) := by
    simp only [List.mem_cons, List.not_mem_nil, or_false] at m3
    rcases m3 with z | z | z
    · exact ⟨2, z, .inl rfl⟩
    · exact ⟨3, z, .inr (.inl rfl)⟩
    · exact ⟨7, z, .inr (.inr rfl)⟩
  have tb : Bd 8 (t - 4) := by show (t - 4).natAbs < 2 ^ 8; omega
  have b1 : Bd 8 (1 : Int) := by decide
  have db : Bd 5 d := by show d.natAbs < 2 ^ 5; omega
  have d0 : 0 < d := by omega
  have nd : isq d.toNat * isq d.toNat ≠ d.toNat := by
    rcases hd with z | z | z <;> subst z <;> decide +kernel
  have e4 := fun h => e38r (W := W0) (n := n + 11) (p := t - 4) (q := 1) (r := 1) (d := d) tb b1 b1 db (by decide) (by decide) d0 nd hW h
  have okx := rt_ok (p := t - 4) (q := 1) (r := 1) (d := d) tb b1 b1 db (by decide) (by decide) d0 nd
  have nb := near_bd' t0 t9 hd
  generalize rtF (t - 4) 1 1 d = x at e4 okx nb
  have b997 : Bd 25 (997 : Int) := by decide
  have oky := fr_ok (t := floorF (lfF x) 997) (b := 997) (by decide) nb b997
  have bnx : BN 1000 x := by
    cases x with
    | fr t b => exact ⟨bdW okx.1 rfl, bdW okx.2.1 rfl⟩
    | rt a b c s => exact ⟨bdW okx.1 rfl, bdW okx.2.1 rfl, bdW okx.2.2.1 rfl, by rcases okx.2.2.2.2.1 with z | z <;> subst z <;> decide⟩
  have t37 := fun h => e37 (W := W0) (n := n + 13) bnx h
  have t46 := fun h => e46 (W := W0) (n := n + 12) (f := 997) (BL_ok okx) (bdW b997 rfl) hW h
  have t35 := fun h => e35 (W := W0) (n := n + 12) (t := floorF (lfF x) 997) (b := 997) (by decide) (bdW b997 rfl) hW h
  obtain ⟨y, hy⟩ : ∃ y, y = Nm.fr (rateF (floorF (lfF x) 997) 997).1 (rateF (floorF (lfF x) 997) 997).2 := ⟨_, rfl⟩
  rw [← hy] at oky
  have iny : IN y = I2 (rateF (floorF (lfF x) 997) 997) := by rw [hy]; rfl
  obtain ⟨h5, e5, p5, _⟩ := e51 (W := W0) (n := n + 5) okx oky p3 (by omega) hW
  obtain ⟨h6, e6, p6, _⟩ := e51 (W := W0) (n := n + 5) oky okx p5 (by omega) hW
  obtain ⟨h7, e7, p7, _⟩ := e51 (W := W0) (n := n + 5) okx okx p6 (by omega) hW
  obtain ⟨h8, e8, p8, _⟩ := e52 (n := n) p7 (by omega)
  refine ⟨h8, q_go ?_, p8.mono (by omega)⟩
  unfold d53
  refine q_fo rng8 e1 ?_
  show SQ (cf W0 (n + 14)) _ [some (.ref 0), some lp, none, none] H1 = _
  refine q_asg (v := IN x) (h2 := h3) (h4 := h3) (ρ1 := [some (.ref 0), some lp, some (IN x), none]) (v_call (vs := [.tup [.int (t - 4), .int 1, .int 1, .int d]]) (h2 := h3) ?_ (e4 h3)) g_tn ?_
  · refine a_cons (h2 := h3) (v_tup (vs := [.int (t - 4), .int 1, .int 1, .int d]) ?_ (le_sz rfl)) a_nil
    refine a_cons (h2 := h2) (v_bin (h2 := h2) (h4 := h2) (x := .int t) (y := .int 4) (v_intI (v_call (vs := [.ref 0, .int 9]) (h2 := H1) ?_ e2)) v_cst bi_sub) (a_cons v_cst (a_cons v_cst (a_cons (h2 := h3) (v_call (vs := [.ref 0, .ref h2.length]) (h2 := h2 ++ [.lst false [.int 2, .int 3, .int 7]]) ?_ e3) a_nil)))
    · exact a_cons (v_var rfl) (a_cons v_cst a_nil)
    · refine a_cons (h2 := h2) (v_var rfl) (a_cons (v_lst (h2 := h2) (vs := [.int 2, .int 3, .int 7]) ?_ (le_sz rfl)) a_nil)
      exact a_cons v_cst (a_cons v_cst (a_cons v_cst a_nil))
  refine q_asg (v := IN y) (h2 := h3) (h4 := h3) (ρ1 := [some (.ref 0), some lp, some (IN x), some (IN y)]) ?_ g_tn ?_
  · rw [iny]
    exists t37, t46, t35
  refine q_iffF (h2 := h6) (t_ooF (h2 := h5) (t_nt (k := true) (t_call (v_call (vs := [.ref 0, IN x, IN y]) (h2 := h3) ?_ e5))) (t_nt (k := true) (t_call (v_call (vs := [.ref 0, IN y, IN x]) (h2 := h5) ?_ e6)))) ?_
  · exact a_cons (v_var rfl) (a_cons (v_var rfl) (a_cons (v_var rfl) a_nil))
  · exact a_cons (v_var rfl) (a_cons (v_var rfl) (a_cons (v_var rfl) a_nil))
  refine q_nil (q_ret ?_)
  refine v_anT (h2 := h7) (v_call (vs := [.ref 0, IN x, IN x]) (h2 := h6) ?_ e7) (v_call (vs := [.ref 0]) (h2 := h7) (a_cons (v_var rfl) a_nil) e8)
  exact a_cons (v_var rfl) (a_cons (v_var rfl) (a_cons (v_var rfl) a_nil))
theorem e53 {n k p : Nat} {H : Hh} (hp : PH k p H) (hk : k ≤ 600) : ∃ H', evN (PW W0) (n + 15) true 53 [.ref p] H = .ok (.bl true) H' ∧ PH (k + 138) p H' ∧ Fr p H H' := by
  obtain ⟨v, H', e, rfl, r⟩ := pot_run (W := W0) (n := n + 14) (f := 53) (d := d53) (k' := k + 138) (as := []) (Q := fun v => v = .bl true) hp rfl rfl rfl (fun a b c hp => by
    obtain ⟨h1, e, ph⟩ := right_b (n := n) hp hk
    exact ⟨.bl true, h1, ok_run rfl rfl e, rfl, rfl, ph⟩)
  exact ⟨H', e, r⟩
abbrev Sv (ns : List Int) : HV := .lst true (ns.map PV.int)
theorem pures_ints : ∀ ns : List Int, PV.pures (ns.map PV.int) = true
  | [] => rfl
  | _ :: ns => pures_ints ns
theorem at0 {ns : List Int} {k : Nat} (hk : k < ns.length) : atI (ns.map PV.int) (k : Int) = some (.int ns[k]) := by
  unfold atI ixN
  simp [hk]
theorem idx0 {ns : List Int} {k : Nat} (hk : k < ns.length) : idxV (.ref 0) (.int k) [Sv ns] = .ok (.int ns[k]) [Sv ns] := by
  show (match atI (ns.map PV.int) (k : Int) with
    | some v => Rz.ok v [Sv ns]
    | none => .err) = _
  rw [at0 hk]
def BIG : Int := ((10 : Int) ^ (60 : Int).toNat) ^ (5 : Int).toNat
theorem BIG_pos : 0 < BIG := by decide +kernel
theorem BIG_lt : BIG.natAbs < 2 ^ 1000 := by decide +kernel
theorem pow_ok1 : PowOk 10 60 := by decide
theorem pow_ok2 : PowOk ((10 : Int) ^ (60 : Int).toNat) 5 := by decide +kernel
theorem pow_ok3 : PowOk 10 18 := by decide
def itL (N : Nat) : HV := .lst false ((List.range N).map fun (k : Nat) => PV.int (k : Int))
def mx (L : Int) : Int := if (if L < 3 then L else 3) > 1 then (if L < 3 then L else 3) else 1
theorem cells_eq (n : Nat) (ns : List Int) : (ev (cf W0 n) d30.body).s [some (.ref 0), some (.int 3)] [Sv ns] = ((lrngV (.int (mx ((ns.map PV.int).length : Nat))) [Sv ns]).bnd fun v h => .ok (Fl.rt v) h).bnd fun (f : Fl) (h : Hh) => match f with
  | .nx ρ => .ok (Fl.nx ρ) h
  | f => .ok f h := by
  kernel_rfl
theorem mx_ok (L : Nat) (h : 1 ≤ L) : ∃ N : Nat, 1 ≤ N ∧ N ≤ 3 ∧ N ≤ L ∧ mx (L : Int) = (N : Int) := by
  unfold mx
  by_cases h3 : (L : Int) < 3
  · rw [if_pos h3]
    by_cases h1 : (L : Int) > 1
    · rw [if_pos h1]; exact ⟨L, by omega, by omega, by omega, rfl⟩
    · rw [if_neg h1]; exact ⟨1, by omega, by omega, by omega, rfl⟩
  · rw [if_neg h3, if_pos (by omega)]; exact ⟨3, by omega, by omega, by omega, rfl⟩
/-- how many cells are looked at -/
def Nc (ns : List Int) (N : Nat) : Prop := N ≤ 3 ∧ ∀ k, k < N → k < ns.length ∧ k < 3 ∨ ns = [] ∧ k = 0
theorem cells_b (n : Nat) (ns : List Int) : ∃ N, Nc ns N ∧ (ev (cf W0 n) d30.body).s [some (.ref 0), some (.int 3)] [Sv ns] = .ok (.rt (.ref 1)) [Sv ns, itL N] := by
  have fin : ∀ N : Nat, N ≤ 3 → mx ((ns.map PV.int).length : Nat) = (N : Int) → (ev (cf W0 n) d30.body).s [some (.ref 0), some (.int 3)] [Sv ns] = .ok (.rt (.ref 1)) [Sv ns, itL N] := fun N h3 e => by
    rw [cells_eq, e]
    have : lrngV (.int (N : Int)) [Sv ns] = newL ((List.range N).map fun (k : Nat) => PV.int (k : Int)) [Sv ns] := by
      show (if 0 ≤ (N : Int) ∧ (N : Int) ≤ 1000000 then newL ((List.range (N : Int).toNat).map fun (k : Nat) => PV.int (k : Int)) [Sv ns] else .err) = _
      rw [if_pos ⟨by omega, by omega⟩]
      rfl
    rw [this]
    rfl
  cases ns with
  | nil => exact ⟨1, ⟨by decide, fun k hk => .inr ⟨rfl, by omega⟩⟩, fin 1 (by decide) rfl⟩
  | cons a r =>
    obtain ⟨N, h1, h3, hL, e⟩ := mx_ok (a :: r).length (by simp)
    exact ⟨N, ⟨h3, fun k hk => .inl ⟨by omega, by omega⟩⟩, fin N h3 (by rw [List.length_map]; exact e)⟩
theorem pot_nil (n : Nat) : ∃ B : Int, (ev (cf W0 n) d27.body).s [some (.ref 0), some (.int 0), none, none, none] [Sv []] = .ok (.rt (.ref 2)) [Sv [], .lst false [], PotV 0 B 0] ∧ 0 ≤ B ∧ B < 2305843009213693921 := ⟨228248086, by kernel_rfl, by decide, by decide⟩
theorem pot_b {n k : Nat} {ns : List Int} (hk : k < ns.length) (hk3 : k < 3) : ∃ A B, (ev (cf W0 n) d27.body).s [some (.ref 0), some (.int k), none, none, none] [Sv ns] = .ok (.rt (.ref 1)) [Sv ns, PotV A B 0] ∧ 0 ≤ B ∧ B < 2305843009213693921 := by
  obtain ⟨c, hc⟩ : ∃ c, c = ns[k] := ⟨_, rfl⟩
  have f := fm (i := if c < 0 then -c else c) BIG_pos
  have l := BIG_lt
  have fb : Bd 1000 (Int.fmod (if c < 0 then -c else c) BIG) := Nat.lt_trans (by omega) l
  have Bn : BIG ≠ 0 := by have := BIG_pos; omega
  have m1 : EV.MulOk (Int.fmod (if c < 0 then -c else c) BIG) (EV.b2 (decide ((10 : Int) ^ (18 : Int).toNat ≤ (if c < 0 then -c else c)))) := mulOk' fb (show Bd 1 _ by cases decide ((10 : Int) ^ (18 : Int).toNat ≤ (if c < 0 then -c else c)) <;> decide) rfl
  have g := fm (i := c) (j := 2305843009213693951) (by decide)
  have sb : Bd 70 (c.fmod 2305843009213693951) := by show (c.fmod 2305843009213693951).natAbs < 2 ^ 70; omega
  have m2 : EV.MulOk (c.fmod 2305843009213693951) 72161 := mulOk' sb (show Bd 20 (72161 : Int) by decide) rfl
  have kb : Bd 2 (k : Int) := by show k < 2 ^ 2; omega
  have m3 : EV.MulOk 10853 (k : Int) := mulOk' (show Bd 20 (10853 : Int) by decide) kb rfl
  have m4 : EV.MulOk (10853 * (k : Int)) (k : Int) := mulOk' (bdMul (show Bd 20 (10853 : Int) by decide) kb) kb rfl
  have r := fm (i := c.fmod 2305843009213693951 * 72161 + 10853 * (k : Int) * (k : Int) + 2843) (j := 2305843009213693921) (by decide)
  have n1 : (2305843009213693951 : Int) ≠ 0 := by decide
  have n2 : (2305843009213693921 : Int) ≠ 0 := by decide
  refine ⟨Int.fmod (if c < 0 then -c else c) BIG * (EV.b2 (decide ((10 : Int) ^ (18 : Int).toNat ≤ (if c < 0 then -c else c)))), Int.fmod (c.fmod 2305843009213693951 * 72161 + 10853 * (k : Int) * (k : Int) + 2843) 2305843009213693921, ?_, r.1, r.2⟩
  refine q_go ?_
  unfold d27
  refine q_asg (v := .int c) (h2 := [Sv ns]) (h4 := [Sv ns]) (ρ1 := [some (.ref 0), some (.int k), some (.int c), none, none]) ?_ g_tn ?_
  · refine v_ifeT' (kk := decide ((k : Int) < ((ns.map PV.int).length : Nat))) (h2 := [Sv ns]) (t_cmp (v_cmp (h2 := [Sv ns]) (h4 := [Sv ns]) (v_var rfl) (v_lenR (xs := ns.map PV.int) (v_var rfl) rfl) c_lt)) (decide_eq_true (by rw [List.length_map]; omega)) ?_
    refine v_idx (h2 := [Sv ns]) (h4 := [Sv ns]) (v_var rfl) (v_var rfl) ?_
    rw [hc]
    exact idx0 hk
  have absE : ∀ ρ : En, slot ρ 2 = some (.int c) → (ev (cf W0 n) (.blt .abs (.cons (.var 2) .nil))).e ρ [Sv ns] = .ok (.int (if c < 0 then -c else c)) [Sv ns] := fun ρ hs => v_abs (v_var hs)
  refine q_asg (v := .int (Int.fmod (if c < 0 then -c else c) BIG * (EV.b2 (decide ((10 : Int) ^ (18 : Int).toNat ≤ (if c < 0 then -c else c)))))) (h2 := [Sv ns]) (h4 := [Sv ns]) (ρ1 := [some (.ref 0), some (.int k), some (.int c), some (.int (Int.fmod (if c < 0 then -c else c) BIG * (EV.b2 (decide ((10 : Int) ^ (18 : Int).toNat ≤ (if c < 0 then -c else c)))))), none]) ?_ g_tn ?_
  · refine v_bin (h2 := [Sv ns]) (h4 := [Sv ns]) (x := .int (Int.fmod (if c < 0 then -c else c) BIG)) (y := .int (EV.b2 (decide ((10 : Int) ^ (18 : Int).toNat ≤ (if c < 0 then -c else c))))) ?_ ?_ (bi_mul m1)
    · refine v_bin (h2 := [Sv ns]) (h4 := [Sv ns]) (x := .int (if c < 0 then -c else c)) (y := .int BIG) (v_intI (absE _ rfl)) ?_ (bi_mod Bn)
      exact v_bin (h2 := [Sv ns]) (h4 := [Sv ns]) (x := .int ((10 : Int) ^ (60 : Int).toNat)) (y := .int 5) (v_bin (h2 := [Sv ns]) (h4 := [Sv ns]) v_cst v_cst (bi_pow pow_ok1)) v_cst (bi_pow pow_ok2)
    · refine v_intB (v_cmp (h2 := [Sv ns]) (h4 := [Sv ns]) (x := .int (if c < 0 then -c else c)) (y := .int ((10 : Int) ^ (18 : Int).toNat)) (absE _ rfl) ?_ c_ge)
      exact v_bin (h2 := [Sv ns]) (h4 := [Sv ns]) v_cst v_cst (bi_pow pow_ok3)
  refine q_asg (v := .int (c.fmod 2305843009213693951)) (h2 := [Sv ns]) (h4 := [Sv ns]) (ρ1 := [some (.ref 0), some (.int k), some (.int c), some (.int (Int.fmod (if c < 0 then -c else c) BIG * (EV.b2 (decide ((10 : Int) ^ (18 : Int).toNat ≤ (if c < 0 then -c else c)))))), some (.int (c.fmod 2305843009213693951))]) ?_ g_tn ?_
  · walk_at "evs"
  refine q_ret (v_lst (h2 := [Sv ns]) ?_ (le_sz rfl))
  walk_at "evs"
theorem set_same {H : Hh} {p : Nat} {o : HV} (e : H[p]? = some o) : H.set p o = H := by
  apply List.ext_getElem?
  intro j
  by_cases hj : p = j
  · subst hj
    rw [List.getElem?_set_self (List.getElem?_eq_some_iff.mp e).1, e]
  · rw [List.getElem?_set_ne hj]
theorem itL_get (N k : Nat) : ((List.range N).map fun (k : Nat) => PV.int (k : Int))[k]? = if k < N then some (.int (k : Int)) else none := by
  by_cases h : k < N
  · simp [h]
  · simp [h]
theorem comp_law {n N : Nat} {ns : List Int} {el : T} {ρ0 : En} (he : ∀ k, k < N → ∀ H, H[0]? = some (Sv ns) → 3 ≤ H.length → ∃ H', (ev (cf W0 n) el).e (ρ0.set 1 (some (.int (k : Int)))) H = .ok (.bl true) H' ∧ H.length ≤ H'.length ∧ ∀ j, j < H.length → H'[j]? = H[j]?) : ∀ (r m k : Nat) (acc : List PV) (H : Hh), N = k + r → r < m → H[0]? = some (Sv ns) → H[1]? = some (itL N) → isFl H 2 = some acc → 3 ≤ H.length → acc.length + r < 1000 →
    ∃ H', compL (ev (cf W0 n) (.tn 1)).g (ev (cf W0 n) .nil).t (ev (cf W0 n) el).e (.ref 1) ρ0 2 m k H = .ok (.ref 2) H' ∧ getL H' 2 = some (acc ++ List.replicate r (.bl true))
  | r, 0, k, acc, H, h1, h2, _, _, _, _, _ => by omega
  | 0, m + 1, k, acc, H, h1, h2, g0, g1, f, hL, ha => by
    refine ⟨H, ?_, ?_⟩
    · unfold compL
      have : EV.itemAt (.ref 1) k H = some none := by
        show (match getL H 1 with
          | some xs => some xs[k]?
          | none => none) = _
        have : getL H 1 = some ((List.range N).map fun (k : Nat) => PV.int (k : Int)) := by
          unfold getL
          rw [g1]; rfl
        rw [this]
        dsimp only
        rw [itL_get, if_neg (by omega)]
      rw [this]
    · rw [List.replicate_zero, List.append_nil]
      unfold isFl at f
      unfold getL
      split at f
      · rename_i ys e
        rw [e]; exact f
      · cases f
  | r + 1, m + 1, k, acc, H, h1, h2, g0, g1, f, hL, ha => by
    obtain ⟨H1, e1, l1, fr⟩ := he k (by omega) H g0 hL
    have f1 : isFl H1 2 = some acc := by
      unfold isFl at f ⊢
      rw [fr 2 (by omega)]
      exact f
    obtain ⟨H2, e2, e3⟩ := comp_law he r m (k + 1) (acc ++ [.bl true]) (H1.set 2 (.lst false (acc ++ [.bl true]))) (by omega) (by omega) (by rw [List.getElem?_set_ne (by omega), fr 0 (by omega), g0]) (by rw [List.getElem?_set_ne (by omega), fr 1 (by omega), g1]) (by unfold isFl; rw [List.getElem?_set_self (by omega)]) (by rw [List.length_set]; omega) (by simp; omega)
    refine ⟨H2, ?_, by rw [e3, List.append_assoc, List.replicate_succ]; rfl⟩
    unfold compL
    have : EV.itemAt (.ref 1) k H = some (some (.int (k : Int))) := by
      show (match getL H 1 with
        | some xs => some xs[k]?
        | none => none) = _
      have : getL H 1 = some ((List.range N).map fun (k : Nat) => PV.int (k : Int)) := by
        unfold getL
        rw [g1]; rfl
      rw [this]
      dsimp only
      rw [itL_get, if_pos (by omega)]
    rw [this]
    show ((ev (cf W0 n) (.tn 1)).g (.int (k : Int)) ρ0 H).bnd _ = _
    rw [show (ev (cf W0 n) (.tn 1)).g (.int (k : Int)) ρ0 H = .ok (ρ0.set 1 (some (.int (k : Int)))) H from rfl, bnd_ok, show (ev (cf W0 n) .nil).t (ρ0.set 1 (some (.int (k : Int)))) H = .ok true H from rfl, bnd_ok]
    dsimp only
    rw [e1, bnd_ok, f1]
    dsimp only
    rw [if_pos (by rw [sizeLine_eq]; omega)]
    exact e2
theorem v_allC {n : Nat} {ρ : En} {own : List Nat} {it el : T} {h h2 h4 : Hh} {N : Nat} (h1 : (ev (cf W0 n) it).e ρ h = .ok (.ref 1) h2) (hi : (ev (cf W0 n) it).i ρ h = ((ev (cf W0 n) it).e ρ h).bnd fun v h => match v with
    | .tup xs => .ok (.fix xs) h
    | .ref n => match getL h n with
      | some _ => .ok (.ref n) h
      | none => .err
    | _ => .err) {xs : List PV} (hg1 : getL h2 1 = some xs) (h3 : compL (ev (cf W0 n) (.tn 1)).g (ev (cf W0 n) .nil).t (ev (cf W0 n) el).e (.ref 1) (wipeE ρ own) h2.length W0 0 (h2 ++ [.lst false []]) = .ok (.ref 2) h4) (hg : getL h4 2 = some (List.replicate N (.bl true))) : (ev (cf W0 n) (.blt .all (.cons (.lc own (.tn 1) it .nil el) .nil))).e ρ h = .ok (.bl true) h4 := by
  show ((((ev (cf W0 n) it).i ρ h).bnd fun it h => if (!false || it.noClo) = true then
      (compL (ev (cf W0 n) (.tn 1)).g (ev (cf W0 n) .nil).t (ev (cf W0 n) el).e it (wipeE ρ own) h.length W0 0 (h ++ [.lst false []])).nox else .err).bnd fun x h => (Rz.ok ([] : List PV) h).bnd fun xs h => .ok (x :: xs) h).bnd (fun vs h => bltV .all vs h) = _
  rw [hi, h1, bnd_ok]
  dsimp only
  rw [hg1]
  dsimp only
  rw [bnd_ok, if_pos (show (!false || (It.ref 1).noClo) = true from rfl), h3]
  show allV (.ref 2) h4 = _
  unfold allV
  have g : lstV h4 (.ref 2) = some (List.replicate N (PV.bl true)) := hg
  have bls : ∀ N : Nat, blsP (List.replicate N (PV.bl true)) = some (List.replicate N true) := fun N => by
    induction N with
    | zero => rfl
    | succ n ih =>
      rw [List.replicate_succ]
      show (match blsP (List.replicate n (PV.bl true)) with
        | some l => some (true :: l)
        | none => none) = _
      rw [ih]; rfl
  rw [g]
  show (match blsP (List.replicate N (PV.bl true)) with
      | some l => Rz.ok (PV.bl (l.all id)) h4
      | none => .err) = _
  rw [bls]
  show Rz.ok (PV.bl ((List.replicate N true).all id)) h4 = _
  rw [List.all_eq_true.mpr fun x hx => by rw [(List.mem_replicate.mp hx).2]; rfl]
theorem i_call {n f : Nat} {as : T} {ρ : En} {h : Hh} : (ev (cf W0 n) (.call f as)).i ρ h = ((ev (cf W0 n) (.call f as)).e ρ h).bnd fun v h => match v with
    | .tup xs => .ok (.fix xs) h
    | .ref n => match getL h n with
      | some _ => .ok (.ref n) h
      | none => .err
    | _ => .err := rfl
theorem e27 {n k : Nat} {ns : List Int} {H : Hh} (h0 : H[0]? = some (Sv ns)) (hk : k < ns.length ∧ k < 3 ∨ ns = [] ∧ k = 0) : ∃ p H', evN (PW W0) (n + 1) true 27 [.ref 0, .int (k : Int)] H = .ok (.ref p) H' ∧ PH 0 p H' ∧ H.length ≤ p ∧ H.length ≤ H'.length ∧ ∀ j, j < H.length → H'[j]? = H[j]? := by
  rcases hk with ⟨hk, h3⟩ | ⟨rfl, rfl⟩
  · obtain ⟨A, B, e, b0, b1⟩ := pot_b (n := n) hk h3
    have c := callR (W := W0) (n := n) (f := 27) (d := d27) (H := H) (p := 0) (fl := true) (xs := ns.map PV.int) (as := [.int (k : Int)]) (v := .ref 1) (h1 := [Sv ns, PotV A B 0]) rfl rfl h0 (pures_ints ns) rfl (ok_run rfl rfl e)
    have ew : wrt [0] H.length [0] [Sv ns, PotV A B 0] H = H ++ [PotV A B 0] := by
      show H.set 0 (HV.bak [0] H.length (Sv ns)) ++ [HV.bak [0] H.length (PotV A B 0)] = _
      rw [lst_bak _ _ (pures_ints ns), lst_bak _ _ rfl, set_same h0]
    rw [ew] at c
    refine ⟨H.length, H ++ [PotV A B 0], c, ⟨A, B, 0, get_end _ _, b0, by omega, by decide, by decide⟩, Nat.le_refl _, by rw [List.length_append]; omega, fun j hj => List.getElem?_append_left hj⟩
  · obtain ⟨B, e, b0, b1⟩ := pot_nil n
    have c := callR (W := W0) (n := n) (f := 27) (d := d27) (H := H) (p := 0) (fl := true) (xs := []) (as := [.int 0]) (v := .ref 2) (h1 := [Sv [], .lst false [], PotV 0 B 0]) rfl rfl h0 rfl rfl (ok_run rfl rfl e)
    have ew : wrt [0] H.length [0] [Sv [], .lst false [], PotV 0 B 0] H = H ++ [.lst false [], PotV 0 B 0] := by
      show H.set 0 (HV.bak [0] H.length (Sv [])) ++ [HV.bak [0] H.length (.lst false []), HV.bak [0] H.length (PotV 0 B 0)] = _
      rw [lst_bak _ _ rfl, lst_bak _ _ rfl, lst_bak _ _ rfl, set_same h0]
    rw [ew] at c
    refine ⟨H.length + 1, H ++ [.lst false [], PotV 0 B 0], c, ⟨0, B, 0, ?_, b0, by omega, by decide, by decide⟩, by omega, by rw [List.length_append]; omega, fun j hj => List.getElem?_append_left hj⟩
    rw [List.getElem?_append_right (by omega), Nat.add_sub_cancel_left]; rfl
theorem el_ok {n k : Nat} {ns : List Int} {H : Hh} (h0 : H[0]? = some (Sv ns)) (hk : k < ns.length ∧ k < 3 ∨ ns = [] ∧ k = 0) : ∃ H', (ev (cf W0 (n + 15)) (.call 53 (.cons (.call 27 (.cons (.var 0) (.cons (.var 1) .nil))) .nil))).e [some (.ref 0), some (.int (k : Int))] H = .ok (.bl true) H' ∧ H.length ≤ H'.length ∧ ∀ j, j < H.length → H'[j]? = H[j]? := by
  obtain ⟨p, H1, e1, p1, lp, l1, f1⟩ := e27 (n := n + 14) h0 hk
  obtain ⟨H2, e2, p2, f2⟩ := e53 (n := n) p1 (by decide)
  refine ⟨H2, v_call (vs := [.ref p]) (h2 := H1) (a_cons (v_call (vs := [.ref 0, .int (k : Int)]) (h2 := H) (a_cons (v_var rfl) (a_cons (v_var rfl) a_nil)) e1) a_nil) e2, Nat.le_trans l1 f2.1, fun j hj => ?_⟩
  rw [f2.2 j (by omega) (by omega), f1 j hj]
theorem e30 {n : Nat} {ns : List Int} : ∃ N, Nc ns N ∧ evN (PW W0) (n + 1) true 30 [.ref 0, .int 3] [Sv ns] = .ok (.ref 1) [Sv ns, itL N] := by
  obtain ⟨N, h1, e⟩ := cells_b n ns
  refine ⟨N, h1, ?_⟩
  have c := callR (W := W0) (n := n) (f := 30) (d := d30) (H := [Sv ns]) (p := 0) (fl := true) (xs := ns.map PV.int) (as := [.int 3]) (v := .ref 1) (h1 := [Sv ns, itL N]) rfl rfl rfl (pures_ints ns) rfl (ok_run rfl rfl e)
  rw [c]
  have b2 : HV.bak [0] 1 (itL N) = itL N := by
    have : (List.range N).map (fun (k : Nat) => PV.int (k : Int)) = ((List.range N).map fun (k : Nat) => (k : Int)).map PV.int := by rw [List.map_map]; rfl
    unfold itL
    rw [this]
    exact lst_bak _ _ (pures_ints _)
  show Rz.ok (PV.ref 1) ([HV.bak [0] 1 (Sv ns)] ++ [HV.bak [0] 1 (itL N)]) = _
  rw [lst_bak _ _ (pures_ints ns), b2]
  rfl
theorem law_run (ns : List Int) : ∃ H, (ev (cf W0 19) d54.body).s [some (.ref 0), none] [Sv ns] = .ok (.rt (.bl true)) H := by
  obtain ⟨N, ⟨h3, hN⟩, e⟩ := e30 (n := 18) (ns := ns)
  obtain ⟨H, c, g⟩ := comp_law (n := 19) (N := N) (ns := ns) (el := .call 53 (.cons (.call 27 (.cons (.var 0) (.cons (.var 1) .nil))) .nil)) (ρ0 := [some (.ref 0), none]) (fun k hk H h0 _ => el_ok (n := 4) h0 (hN k hk)) N W0 0 [] [Sv ns, itL N, .lst false []] (by omega) (Nat.lt_of_lt_of_le (show N < 1000 by omega) (W1000 W0_big)) rfl rfl rfl (Nat.le_refl 3) (by simp; omega)
  rw [List.nil_append] at g
  refine ⟨H, q_go ?_⟩
  unfold d54
  refine q_ret (v_allC (h2 := [Sv ns, itL N]) (N := N) (v_call (vs := [.ref 0, .int 3]) (h2 := [Sv ns]) ?_ e) i_call (xs := (List.range N).map fun (k : Nat) => PV.int (k : Int)) rfl c g)
  exact a_cons (v_var rfl) (a_cons v_cst a_nil)
theorem law_ev (ns : List Int) (hl : ns.length ≤ 63) : ∃ wf h, evN (prog.at wf) 20 true 54 [.ref 0] [.lst true (ns.map PV.int)] = .ok (.bl true) h := by
  obtain ⟨H, e⟩ := law_run ns
  have c := callR (W := W0) (n := 19) (f := 54) (d := d54) (H := [Sv ns]) (p := 0) (fl := true) (xs := ns.map PV.int) (as := []) (v := .bl true) (h1 := H) rfl rfl rfl (pures_ints ns) rfl (ok_run rfl rfl e)
  exact ⟨W0, _, c⟩
end K01
set_option linter.all false
set_option maxRecDepth 100000
set_option maxHeartbeats 0
open PySem PySem.W PySem.Calls PyProof.Rows
set_option Elab.async false
theorem PySem.Challenge.cw_elbowsexactly_k01_whole_numbers_of_unlik_holds : PySem.Challenge.rw_elbowsexactly_k01_whole_numbers_of_unlik.Holds := by
  w_on; o_law
  refine HandSHeadRun.head_any (r := K01.R) (q := view K01.R.prog [67]) (H := K01.hk) (ob := K01.ob) (M := 6000) (loose := K01.loose) (d := HandSHeadRun.topDef K01.R.prog 67) (kwd := []) K01.ob_eq
    (by kernel_rfl) (fun s => by kernel_rfl) K01.run (by kernel_rfl) (by kernel_rfl) (by kernel_rfl) (by rfl) (by first | assumption | decide +kernel) (by decide +kernel) ⟨rfl, rfl, rfl, rfl, rfl, by decide +kernel⟩ ?hw ?hc
  case hw => w_witness2
  case hc =>
    refine EV.walk_ev (l := PySem.Challenge.rw_elbowsexactly_k01_whole_numbers_of_unlik) (n := 63) (dep := 20) (f := 54) (x := "script") (M := K01.nms) (P := K01.prog) (lmd := K01.lmd) rfl (by decide) (by kernel_rfl) ⟨rfl, by decide, by decide⟩ ?F K01.law_ev
    intro w mg fa h Y G hmg0
    obtain ⟨K, L⟩ := Y
    have hmg : mg ("law" : PySem.Str) = some (.ref fa) := by
      have e : (HandSHeadRun.topDef K01.R.prog 67).name = ("law" : PySem.Str) := by kernel_rfl
      rw [← e]
      exact hmg0
    obtain ⟨PF, df, nT, hC, ht⟩ := EV.pgF_of (Q := fun f ps => f = 54 → ps = K01.p54) (prog := (PySem.Challenge.rw_elbowsexactly_k01_whole_numbers_of_unlik).prog) (M := K01.nms) (P := K01.prog) (lmd := K01.lmd) (fl := K01.flg) (file := K01.file) (fn := K01.fnD) L G (by decide) rfl rfl rfl rfl (by kernel_rfl) (by kernel_rfl) K01.TT
    obtain ⟨d, D, ps, fd, h1, h2, ⟨T, q⟩, F⟩ := df 54 "law" rfl
    cases h1
    rw [q rfl] at F
    have hfa := hmg.symm.trans F.mg
    injection hfa with hfa
    injection hfa with hfa
    have hn : (HandSHeadRun.topDef K01.R.prog 67).name = ("law" : PySem.Str) := by kernel_rfl
    refine ⟨K, _, _, _, fd, L.kin, L.nl, L.tab, nT, hC, ht, PF, rfl, ?_⟩
    rw [hn, hfa]
    exact F
